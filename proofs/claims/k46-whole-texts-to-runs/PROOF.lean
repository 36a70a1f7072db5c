import PyProof.Rows.All
import Wide.All
import OpenK.AllK
import Wide.FinOn
import HandS.ForMost
import HandS.Zip
import HandS.TupAny
import HandS.More
import KE.GoesEnum
import HandS.IsInst
import HandS.StrMore
import HandS.Rev
import HandS.RevRange
import HandS.MakeKwOnly
import HandS.Flow
import HandS.Wide
import HandS.NoneIn
import PySem.Challenge.RW_ownglass_k46_whole_texts_to_runs
set_option Elab.async false
set_option linter.all false
set_option maxRecDepth 100000
set_option maxHeartbeats 4000000
/-! ### the head -/
section
set_option maxHeartbeats 0
open PySem PySem.W PyProof.Rows
open_top k46head for PySem.Challenge.rw_ownglass_k46_whole_texts_to_runs
end
/-! Values of the first language; their texts, read and written. -/
namespace K46
open PySem

inductive T where
  | w (x : Str)
  | l (ts : List T)

theorem T.ind {P : T → Prop} (hw : ∀ x, P (.w x)) (hl : ∀ ts, (∀ t ∈ ts, P t) → P (.l ts)) : ∀ t, P t := by
  intro t
  refine T.rec (motive_1 := P) (motive_2 := fun ts => ∀ t ∈ ts, P t) hw (fun ts h => hl ts h) (fun _ h => nomatch h) (fun t ts h1 h2 u hu => ?_) t
  rcases List.mem_cons.mp hu with rfl | hu
  · exact h1
  · exact h2 u hu

mutual
def T.beq : T → T → Bool
  | .w x, .w y => decide (x = y)
  | .l xs, .l ys => beqL xs ys
  | .w _, .l _ => false
  | .l _, .w _ => false
def beqL : List T → List T → Bool
  | [], [] => true
  | x :: xs, y :: ys => T.beq x y && beqL xs ys
  | [], _ :: _ => false
  | _ :: _, [] => false
end
mutual
theorem T.beq_iff : ∀ a b : T, T.beq a b = true ↔ a = b
  | .w x, .w y => by simp [T.beq]
  | .l xs, .l ys => by simp [T.beq, beqL_iff xs ys]
  | .w _, .l _ => by simp [T.beq]
  | .l _, .w _ => by simp [T.beq]
theorem beqL_iff : ∀ a b : List T, beqL a b = true ↔ a = b
  | [], [] => by simp [beqL]
  | x :: xs, y :: ys => by simp [beqL, T.beq_iff x y, beqL_iff xs ys]
  | [], _ :: _ => by simp [beqL]
  | _ :: _, [] => by simp [beqL]
end
instance : DecidableEq T := fun a b => if h : T.beq a b = true then isTrue ((T.beq_iff a b).mp h) else isFalse fun e => h ((T.beq_iff a b).mpr e)

mutual
def T.depth : T → Nat
  | .w _ => 0
  | .l ts => depthL ts
def depthL : List T → Nat
  | [] => 1
  | t :: ts => max (t.depth + 1) (depthL ts)
end
mutual
def T.size : T → Nat
  | .w _ => 1
  | .l ts => sizeL ts
def sizeL : List T → Nat
  | [] => 1
  | t :: ts => t.size + sizeL ts
end
/-! the widest list within -/
mutual
def T.wide : T → Nat
  | .w _ => 0
  | .l ts => max ts.length (wideL ts)
def wideL : List T → Nat
  | [] => 0
  | t :: ts => max t.wide (wideL ts)
end
abbrev nil : T := .l []

theorem depthL_pos : ∀ ts : List T, 1 ≤ depthL ts
  | [] => Nat.le_refl _
  | t :: ts => Nat.le_trans (depthL_pos ts) (Nat.le_max_right _ _)
theorem size_pos : ∀ t : T, 1 ≤ t.size := by
  intro t
  cases t with
  | w x => simp [T.size]
  | l ts =>
    rw [T.size]
    induction ts with
    | nil => simp [sizeL]
    | cons t ts ih => rw [sizeL]; omega
theorem length_sizeL : ∀ ts : List T, ts.length + 1 ≤ sizeL ts
  | [] => by simp [sizeL]
  | t :: ts => by
    have h1 := length_sizeL ts
    have h2 := size_pos t
    simp only [List.length_cons, sizeL]
    omega
theorem depth_mem {t : T} : ∀ {ts : List T}, t ∈ ts → t.depth + 1 ≤ depthL ts
  | u :: ts, h => by
    rw [depthL]
    rcases List.mem_cons.mp h with rfl | h
    · exact Nat.le_max_left _ _
    · exact Nat.le_trans (depth_mem h) (Nat.le_max_right _ _)
theorem size_mem {t : T} : ∀ {ts : List T}, t ∈ ts → t.size + 1 ≤ sizeL ts
  | u :: ts, h => by
    rw [sizeL]
    rcases List.mem_cons.mp h with rfl | h
    · have := length_sizeL ts; omega
    · have := size_mem h; omega
theorem wide_mem {t : T} : ∀ {ts : List T}, t ∈ ts → t.wide ≤ wideL ts
  | u :: ts, h => by
    rw [wideL]
    rcases List.mem_cons.mp h with rfl | h
    · exact Nat.le_max_left _ _
    · exact Nat.le_trans (wide_mem h) (Nat.le_max_right _ _)
theorem depthL_le {d : Nat} : ∀ {ts : List T}, 1 ≤ d → (∀ t ∈ ts, t.depth + 1 ≤ d) → depthL ts ≤ d
  | [], h, _ => h
  | t :: ts, h, k => by
    rw [depthL]
    exact Nat.max_le.mpr ⟨k t List.mem_cons_self, depthL_le h fun u hu => k u (List.mem_cons_of_mem _ hu)⟩
theorem wideL_le {d : Nat} : ∀ {ts : List T}, (∀ t ∈ ts, t.wide ≤ d) → wideL ts ≤ d
  | [], _ => Nat.zero_le _
  | t :: ts, k => by
    rw [wideL]
    exact Nat.max_le.mpr ⟨k t List.mem_cons_self, wideL_le fun u hu => k u (List.mem_cons_of_mem _ hu)⟩

/-! ### texts -/
mutual
def T.txt : T → List Nat
  | .w x => x.cps.toList
  | .l ts => 40 :: (txtL ts ++ [41])
def txtL : List T → List Nat
  | [] => []
  | t :: ts => T.txt t ++ txtR ts
def txtR : List T → List Nat
  | [] => []
  | t :: ts => 32 :: (T.txt t ++ txtR ts)
end
/-- a letter, a figure -/
def isLet (c : Nat) : Bool := decide (97 ≤ c) && decide (c ≤ 122)
def isFig (c : Nat) : Bool := decide (48 ≤ c) && decide (c ≤ 57)
def isWs (c : Nat) : Bool := decide (c = 32) || decide (c = 10)
def isAl (c : Nat) : Bool := isLet c || isFig c
/-- a word of the language -/
structure WordOk (x : Str) : Prop where
  le : x.cps.toList.length ≤ 12
  first : ∃ c r, x.cps.toList = c :: r ∧ isLet c = true
  all : ∀ c ∈ x.cps.toList, isAl c = true
/-! a value all of whose words are words -/
mutual
def T.Ok : T → Prop
  | .w x => WordOk x
  | .l ts => OkL ts
def OkL : List T → Prop
  | [] => True
  | t :: ts => T.Ok t ∧ OkL ts
end
theorem OkL_iff : ∀ {ts : List T}, OkL ts ↔ ∀ t ∈ ts, t.Ok
  | [] => by simp [OkL]
  | t :: ts => by simp [OkL, OkL_iff (ts := ts)]

inductive Tok where
  | op | cl | wd (x : Str)
mutual
def T.toks : T → List Tok
  | .w x => [.wd x]
  | .l ts => .op :: (toksL ts ++ [.cl])
def toksL : List T → List Tok
  | [] => []
  | t :: ts => T.toks t ++ toksL ts
end
/-- a text's rest that is these tokens, spaces between -/
inductive Lx : List Nat → List Tok → Prop
  | nil : Lx [] []
  | ws {c : Nat} {cs : List Nat} {ts : List Tok} : isWs c = true → Lx cs ts → Lx (c :: cs) ts
  | op {cs : List Nat} {ts : List Tok} : Lx cs ts → Lx (40 :: cs) (.op :: ts)
  | cl {cs : List Nat} {ts : List Tok} : Lx cs ts → Lx (41 :: cs) (.cl :: ts)
  | wd {x : Str} {cs : List Nat} {ts : List Tok} : WordOk x → (∀ c r, cs = c :: r → isAl c = false) → Lx cs ts → Lx (x.cps.toList ++ cs) (.wd x :: ts)
/-- a text with more spaces and newlines in it -/
inductive Spc : List Nat → List Nat → Prop
  | nil {u : List Nat} : (∀ c ∈ u, isWs c = true) → Spc [] u
  | sp {u cs cs' : List Nat} : u ≠ [] → (∀ c ∈ u, isWs c = true) → Spc cs cs' → Spc (32 :: cs) (u ++ cs')
  | pa {c : Nat} {u cs cs' : List Nat} : (c = 40 ∨ c = 41) → (∀ c ∈ u, isWs c = true) → Spc cs cs' → Spc (c :: cs) (u ++ c :: cs')
  | no {c : Nat} {cs cs' : List Nat} : c ≠ 32 → c ≠ 40 → c ≠ 41 → Spc cs cs' → Spc (c :: cs) (c :: cs')
theorem Lx.wss {u cs : List Nat} {ts : List Tok} (h : ∀ c ∈ u, isWs c = true) (k : Lx cs ts) : Lx (u ++ cs) ts := by
  induction u with
  | nil => exact k
  | cons c u ih => exact .ws (h c List.mem_cons_self) (ih fun d hd => h d (List.mem_cons_of_mem _ hd))
theorem al_not {c : Nat} (h : isAl c = true) : c ≠ 32 ∧ c ≠ 40 ∧ c ≠ 41 ∧ isWs c = false := by
  simp only [isAl, isLet, isFig, isWs, Bool.or_eq_true, Bool.and_eq_true, decide_eq_true_eq, Bool.or_eq_false_iff, decide_eq_false_iff_not] at *
  omega
theorem ws_not {c : Nat} (h : isWs c = true) : isAl c = false := by
  cases e : isAl c with
  | false => rfl
  | true => rw [(al_not e).2.2.2] at h; cases h
theorem let_al {c : Nat} (h : isLet c = true) : isAl c = true := by rw [isAl, h, Bool.true_or]
/-- what stands behind a value: nothing, a space, a bracket that closes -/
def Sep (cs : List Nat) : Prop := cs = [] ∨ (∃ r, cs = 32 :: r) ∨ ∃ r, cs = 41 :: r
theorem Sep.head {cs cs' : List Nat} (h : Sep cs) (k : Spc cs cs') : ∀ c r, cs' = c :: r → isAl c = false := by
  intro c r e
  rcases h with rfl | ⟨q, rfl⟩ | ⟨q, rfl⟩
  · cases k with
    | nil hu => subst e; exact ws_not (hu c List.mem_cons_self)
  · cases k with
    | @sp u _ cs2 hn hu _ =>
      cases u with
      | nil => exact absurd rfl hn
      | cons d u =>
        injection e with e1 _
        subst e1
        exact ws_not (hu _ List.mem_cons_self)
    | pa hc _ _ => rcases hc with z | z <;> cases z
    | no h1 _ _ _ => exact absurd rfl h1
  · cases k with
    | @pa _ u _ cs2 _ hu _ =>
      cases u with
      | nil => injection e with e1 _; subst e1; rfl
      | cons d u => injection e with e1 _; subst e1; exact ws_not (hu _ List.mem_cons_self)
    | no _ _ h3 _ => exact absurd rfl h3
theorem Spc.word {x : List Nat} (hx : ∀ c ∈ x, isAl c = true) {cs s : List Nat} (k : Spc (x ++ cs) s) : ∃ s', s = x ++ s' ∧ Spc cs s' := by
  induction x generalizing s with
  | nil => exact ⟨s, rfl, k⟩
  | cons c x ih =>
    have hc := al_not (hx c List.mem_cons_self)
    cases k with
    | sp _ _ _ => exact absurd rfl hc.1
    | pa q _ _ => rcases q with z | z; exact absurd z hc.2.1; exact absurd z hc.2.2.1
    | no _ _ _ k =>
      obtain ⟨s', e, k'⟩ := ih (fun d hd => hx d (List.mem_cons_of_mem _ hd)) k
      exact ⟨s', by rw [e]; rfl, k'⟩
theorem Spc.op {cs s : List Nat} (k : Spc (40 :: cs) s) : ∃ u s', (∀ c ∈ u, isWs c = true) ∧ s = u ++ 40 :: s' ∧ Spc cs s' := by
  cases k with
  | pa _ hu k => exact ⟨_, _, hu, rfl, k⟩
  | no _ h2 _ _ => exact absurd rfl h2
theorem Spc.cl {cs s : List Nat} (k : Spc (41 :: cs) s) : ∃ u s', (∀ c ∈ u, isWs c = true) ∧ s = u ++ 41 :: s' ∧ Spc cs s' := by
  cases k with
  | pa _ hu k => exact ⟨_, _, hu, rfl, k⟩
  | no _ _ h3 _ => exact absurd rfl h3
theorem Spc.space {cs s : List Nat} (k : Spc (32 :: cs) s) : ∃ u s', (∀ c ∈ u, isWs c = true) ∧ s = u ++ s' ∧ Spc cs s' := by
  cases k with
  | sp _ hu k => exact ⟨_, _, hu, rfl, k⟩
  | pa hc _ _ => rcases hc with z | z <;> cases z
  | no h1 _ _ _ => exact absurd rfl h1
mutual
theorem lx_txt : ∀ (t : T) (tail s : List Nat) (ts : List Tok), t.Ok → Spc (t.txt ++ tail) s → Sep tail → (∀ s', Spc tail s' → Lx s' ts) → Lx s (t.toks ++ ts)
  | .w x, tail, s, ts, ok, k, sep, h => by
    have ok' : WordOk x := by simpa [T.Ok] using ok
    obtain ⟨s', rfl, k'⟩ := Spc.word (x := x.cps.toList) ok'.all (by simpa [T.txt] using k)
    simpa [T.toks] using Lx.wd ok' (sep.head k') (h s' k')
  | .l us, tail, s, ts, ok, k, sep, h => by
    have ok' : OkL us := by simpa [T.Ok] using ok
    have k1 : Spc (40 :: (txtL us ++ 41 :: tail)) s := by simpa [T.txt] using k
    obtain ⟨u, s1, hu, rfl, k2⟩ := k1.op
    have e : (T.l us).toks ++ ts = .op :: (toksL us ++ .cl :: ts) := by simp [T.toks]
    rw [e]
    refine Lx.wss hu (.op (lx_txtL us (41 :: tail) s1 (.cl :: ts) ok' k2 (.inr (.inr ⟨_, rfl⟩)) fun s2 k3 => ?_))
    obtain ⟨u2, s3, hu2, rfl, k4⟩ := k3.cl
    exact Lx.wss hu2 (.cl (h s3 k4))
theorem lx_txtL : ∀ (us : List T) (tail s : List Nat) (ts : List Tok), OkL us → Spc (txtL us ++ tail) s → Sep tail → (∀ s', Spc tail s' → Lx s' ts) → Lx s (toksL us ++ ts)
  | [], tail, s, ts, _, k, _, h => by
    simpa [toksL] using h s (by simpa [txtL] using k)
  | t :: us, tail, s, ts, ok, k, sep, h => by
    have ok' : t.Ok ∧ OkL us := by simpa [OkL] using ok
    have k1 : Spc (t.txt ++ (txtR us ++ tail)) s := by simpa [txtL] using k
    have e : toksL (t :: us) ++ ts = t.toks ++ (toksL us ++ ts) := by simp [toksL]
    rw [e]
    refine lx_txt t _ s _ ok'.1 k1 ?_ fun s' k2 => lx_txtR us tail s' ts ok'.2 k2 sep h
    cases us with
    | nil => simpa [txtR] using sep
    | cons v us => exact .inr (.inl ⟨v.txt ++ txtR us ++ tail, by simp only [txtR, List.cons_append]⟩)
theorem lx_txtR : ∀ (us : List T) (tail s : List Nat) (ts : List Tok), OkL us → Spc (txtR us ++ tail) s → Sep tail → (∀ s', Spc tail s' → Lx s' ts) → Lx s (toksL us ++ ts)
  | [], tail, s, ts, _, k, _, h => by
    simpa [toksL] using h s (by simpa [txtR] using k)
  | t :: us, tail, s, ts, ok, k, sep, h => by
    have ok' : t.Ok ∧ OkL us := by simpa [OkL] using ok
    have k1 : Spc (32 :: (t.txt ++ (txtR us ++ tail))) s := by simpa [txtR] using k
    obtain ⟨u, s1, hu, rfl, k2⟩ := k1.space
    have e : toksL (t :: us) ++ ts = t.toks ++ (toksL us ++ ts) := by simp [toksL]
    rw [e]
    refine Lx.wss hu (lx_txt t _ s1 _ ok'.1 k2 ?_ fun s' k3 => lx_txtR us tail s' ts ok'.2 k3 sep h)
    cases us with
    | nil => simpa [txtR] using sep
    | cons v us => exact .inr (.inl ⟨v.txt ++ txtR us ++ tail, by simp only [txtR, List.cons_append]⟩)
end
theorem lx_of {t : T} {s : List Nat} (ok : t.Ok) (k : Spc t.txt s) : Lx s t.toks := by
  have h := lx_txt t [] s [] ok (by simpa using k) (.inl rfl) fun s' k' => ?_
  · simpa using h
  · cases k' with
    | nil hu => simpa using Lx.wss hu Lx.nil
/-- a text is itself with no more spaces -/
theorem Spc.refl : ∀ s : List Nat, Spc s s
  | [] => .nil (fun _ h => nomatch h)
  | c :: s => by
    by_cases h1 : c = 32
    · subst h1
      exact Spc.sp (u := [32]) (by simp) (by simp [isWs]) (Spc.refl s)
    · by_cases h2 : c = 40 ∨ c = 41
      · exact Spc.pa (u := []) h2 (fun _ h => nomatch h) (Spc.refl s)
      · exact .no h1 (fun e => h2 (.inl e)) (fun e => h2 (.inr e)) (Spc.refl s)

/-! ### running over the tokens: the lists that are open, the innermost first, and what is to come -/
abbrev Opn := List (List T)
inductive Rn : Opn → List Tok → T → Prop
  | fin {t : T} : Rn [[t]] [] t
  | op {X : List T} {S : Opn} {ts : List Tok} {t : T} : (S ≠ [] ∨ X = []) → Rn ([] :: X :: S) ts t → Rn (X :: S) (.op :: ts) t
  | cl {X Y : List T} {S : Opn} {ts : List Tok} {t : T} : Rn ((Y ++ [.l X]) :: S) ts t → Rn (X :: Y :: S) (.cl :: ts) t
  | wd {X : List T} {S : Opn} {x : Str} {ts : List Tok} {t : T} : (S ≠ [] ∨ X = []) → Rn ((X ++ [.w x]) :: S) ts t → Rn (X :: S) (.wd x :: ts) t
mutual
theorem rn_toks : ∀ (u : T) (X : List T) (S : Opn) (ts : List Tok) (t : T), (S ≠ [] ∨ X = []) → Rn ((X ++ [u]) :: S) ts t → Rn (X :: S) (u.toks ++ ts) t
  | .w x, X, S, ts, t, h, k => by simpa [T.toks] using Rn.wd h k
  | .l us, X, S, ts, t, h, k => by
    have e : (T.l us).toks ++ ts = .op :: (toksL us ++ .cl :: ts) := by simp [T.toks]
    rw [e]
    refine .op h (rn_toksL us [] (X :: S) _ t (by simp) ?_)
    rw [List.nil_append]
    exact .cl k
theorem rn_toksL : ∀ (us X : List T) (S : Opn) (ts : List Tok) (t : T), S ≠ [] → Rn ((X ++ us) :: S) ts t → Rn (X :: S) (toksL us ++ ts) t
  | [], X, S, ts, t, h, k => by simpa [toksL] using k
  | u :: us, X, S, ts, t, h, k => by
    have e : toksL (u :: us) ++ ts = u.toks ++ (toksL us ++ ts) := by simp [toksL]
    rw [e]
    refine rn_toks u X S _ t (.inl h) (rn_toksL us (X ++ [u]) S ts t h ?_)
    simpa using k
end
theorem rn_of (t : T) : Rn [[]] t.toks t := by
  have h := rn_toks t [] [] [] t (.inr rfl) .fin
  simpa using h
end K46
/-! Programs, the small-step machine. -/
namespace K46
open PySem

inductive E where
  | v (x : Str)
  | q (t : T)
  | app (w : Str) (es : List E)
theorem E.ind {P : E → Prop} (hv : ∀ x, P (.v x)) (hq : ∀ t, P (.q t)) (ha : ∀ w es, (∀ e ∈ es, P e) → P (.app w es)) : ∀ e, P e := by
  intro e
  refine E.rec (motive_1 := P) (motive_2 := fun es => ∀ e ∈ es, P e) hv hq (fun w es h => ha w es h) (fun _ h => nomatch h) (fun t ts h1 h2 u hu => ?_) e
  rcases List.mem_cons.mp hu with rfl | hu
  · exact h1
  · exact h2 u hu

def sQuote : Str := "quote"
def sIf : Str := "if"
def sSame : Str := "same"
def sWord : Str := "word"
def sHead : Str := "head"
def sTail : Str := "tail"
def sJoin : Str := "join"
def sYes : Str := "yes"
abbrev yes : T := .w sYes
/-- what is done with values that were found -/
def plain (w : Str) : Bool := decide (w = sSame) || decide (w = sWord) || decide (w = sHead) || decide (w = sTail) || decide (w = sJoin)
/-- the numbers of parts of the special words -/
def special (w : Str) : Option Nat :=
  if w = sQuote then some 1 else if w = sIf then some 3 else if w = sSame then some 2 else if w = sWord then some 1 else if w = sHead then some 1 else if w = sTail then some 1 else if w = sJoin then some 2 else none
mutual
def E.t : E → T
  | .v x => .w x
  | .q t => .l [.w sQuote, t]
  | .app w es => .l (.w w :: tL es)
def tL : List E → List T
  | [] => []
  | e :: es => E.t e :: tL es
end
theorem tL_map : ∀ es : List E, tL es = es.map E.t
  | [] => rfl
  | e :: es => by rw [tL, tL_map es]; rfl
structure Fn where
  name : Str
  ps : List Str
  body : E
def Fn.t (f : Fn) : T := .l [.w f.name, .l (f.ps.map T.w), f.body.t]
abbrev Prog := List Fn
def progT (p : Prog) : T := .l (p.map Fn.t)
def look (p : Prog) (g : Str) : Option Fn := p.find? fun f => decide (f.name = g)

/-! ### values -/
def isW : T → Bool
  | .w _ => true
  | .l _ => false
def tItems : T → List T
  | .w _ => []
  | .l ts => ts
def tHead (t : T) : T := (tItems t).headD nil
def tTail (t : T) : T := .l (tItems t).tail
def tJoin (a b : T) : T := .l (a :: tItems b)
def ofB (b : Bool) : T := if b then yes else nil

/-! ### the machine -/
inductive Task where
  | ev (e : E) (r : List (Str × T))
  | br (a b : E) (r : List (Str × T))
  | op (w : Str)
  | call (f : Str) (n : Nat)
structure M where
  todo : List Task
  found : List T
  steps : Nat
def doOp (w : Str) : List T → Option (List T)
  | [] => none
  | a :: f =>
    if w = sWord then some (ofB (isW a) :: f)
    else if w = sHead then some (tHead a :: f)
    else if w = sTail then some (tTail a :: f)
    else match f with
      | [] => none
      | b :: f => if w = sSame then some (ofB (decide (b = a)) :: f) else if w = sJoin then some (tJoin b a :: f) else none
def step (p : Prog) : M → Option M
  | ⟨[], _, _⟩ => none
  | ⟨.ev (.v x) r :: k, f, n⟩ => (r.lookup x).map fun t => ⟨k, t :: f, n + 1⟩
  | ⟨.ev (.q t) r :: k, f, n⟩ => some ⟨k, t :: f, n + 1⟩
  | ⟨.ev (.app w es) r :: k, f, n⟩ =>
    if w = sIf then match es with
      | [a, b, c] => some ⟨.ev a r :: .br b c r :: k, f, n + 1⟩
      | _ => none
    else if w = sQuote then none
    else some ⟨es.map (fun e => Task.ev e r) ++ (if plain w = true then Task.op w else Task.call w es.length) :: k, f, n + 1⟩
  | ⟨.br a b r :: k, [], n⟩ => none
  | ⟨.br a b r :: k, t :: f, n⟩ => some ⟨.ev (if t = nil then b else a) r :: k, f, n⟩
  | ⟨.op w :: k, f, n⟩ => (doOp w f).map fun f' => ⟨k, f', n⟩
  | ⟨.call g m :: k, f, n⟩ =>
    match look p g with
    | some fn => if m = fn.ps.length ∧ m ≤ f.length then some ⟨.ev fn.body (fn.ps.zip (f.take m).reverse) :: k, f.drop m, n⟩ else none
    | none => none
/-- in so many turns to the end -/
inductive Runs (p : Prog) : M → Nat → T → Nat → Prop
  | fin {t : T} {n : Nat} : Runs p ⟨[], [t], n⟩ 0 t n
  | go {a b : M} {m n : Nat} {t : T} : step p a = some b → Runs p b m t n → Runs p a (m + 1) t n
def startM (f : Fn) (ins : List T) : M := ⟨[.ev f.body (f.ps.zip ins)], [], 0⟩

theorem step_le {p : Prog} {a b : M} (h : step p a = some b) : a.steps ≤ b.steps := by
  obtain ⟨todo, f, n⟩ := a
  cases todo with
  | nil => simp [step] at h
  | cons t k =>
    cases t with
    | ev e r =>
      cases e with
      | v x =>
        simp only [step, Option.map_eq_some_iff] at h
        obtain ⟨_, _, rfl⟩ := h
        exact Nat.le_succ _
      | q t => simp only [step, Option.some.injEq] at h; subst h; exact Nat.le_succ _
      | app w es =>
        simp only [step] at h
        split at h
        · split at h
          · cases h; exact Nat.le_succ _
          · cases h
        · split at h
          · cases h
          · cases h; exact Nat.le_succ _
    | br a b r =>
      cases f with
      | nil => simp [step] at h
      | cons t f => simp only [step, Option.some.injEq] at h; subst h; exact Nat.le_refl _
    | op w =>
      simp only [step, Option.map_eq_some_iff] at h
      obtain ⟨_, _, rfl⟩ := h
      exact Nat.le_refl _
    | call g m =>
      simp only [step] at h
      split at h
      · split at h
        · cases h; exact Nat.le_refl _
        · cases h
      · cases h
theorem Runs.le {p : Prog} {a : M} {m n : Nat} {t : T} (h : Runs p a m t n) : a.steps ≤ n := by
  induction h with
  | fin => exact Nat.le_refl _
  | go e _ ih => exact Nat.le_trans (step_le e) ih

/-! ### renaming, and running within a larger program -/
mutual
def E.ren (u : Str → Str) : E → E
  | .v x => .v x
  | .q t => .q t
  | .app w es => .app (if (special w).isSome then w else u w) (renL u es)
def renL (u : Str → Str) : List E → List E
  | [] => []
  | e :: es => E.ren u e :: renL u es
end
theorem renL_map (u : Str → Str) : ∀ es : List E, renL u es = es.map (E.ren u)
  | [] => rfl
  | e :: es => by rw [renL, renL_map u es]; rfl
def Task.ren (u : Str → Str) : Task → Task
  | .ev e r => .ev (e.ren u) r
  | .br a b r => .br (a.ren u) (b.ren u) r
  | .op w => .op w
  | .call g m => .call (u g) m
/-- the machine's state within another one's: more to do behind, more found below, more steps made -/
def M.within (u : Str → Str) (k : List Task) (f : List T) (j : Nat) (a : M) : M := ⟨a.todo.map (Task.ren u) ++ k, a.found ++ f, a.steps + j⟩
/-- the functions of p stand in the larger program under their new names -/
def Has (q p : Prog) (u : Str → Str) : Prop := ∀ g fn, look p g = some fn → look q (u g) = some ⟨u g, fn.ps, fn.body.ren u⟩
/-- no special word is a new name -/
def Fresh (u : Str → Str) : Prop := ∀ g, special (u g) = none
theorem sp_if : (special sIf).isSome = true := by decide +kernel
theorem sp_quote : (special sQuote).isSome = true := by decide +kernel
theorem plain_sp {w : Str} (h : plain w = true) : (special w).isSome = true := by
  simp only [plain, Bool.or_eq_true, decide_eq_true_eq] at h
  rcases h with (((rfl | rfl) | rfl) | rfl) | rfl <;> decide +kernel
theorem sp_cases {w : Str} (h : (special w).isSome = true) : w = sIf ∨ w = sQuote ∨ plain w = true := by
  simp only [special] at h
  by_cases h1 : w = sQuote
  · exact .inr (.inl h1)
  by_cases h2 : w = sIf
  · exact .inl h2
  refine .inr (.inr ?_)
  simp only [plain, Bool.or_eq_true, decide_eq_true_eq]
  by_cases h3 : w = sSame
  · exact .inl (.inl (.inl (.inl h3)))
  by_cases h4 : w = sWord
  · exact .inl (.inl (.inl (.inr h4)))
  by_cases h5 : w = sHead
  · exact .inl (.inl (.inr h5))
  by_cases h6 : w = sTail
  · exact .inl (.inr h6)
  by_cases h7 : w = sJoin
  · exact .inr h7
  rw [if_neg h1, if_neg h2, if_neg h3, if_neg h4, if_neg h5, if_neg h6, if_neg h7] at h
  cases h
theorem if_not_plain : plain sIf = false := by decide +kernel
theorem quote_not_plain : plain sQuote = false := by decide +kernel
theorem if_not_quote : ¬ sIf = sQuote := by decide +kernel
theorem doOp_app {w : Str} {f f' : List T} (h : doOp w f = some f') (k : List T) : doOp w (f ++ k) = some (f' ++ k) := by
  cases f with
  | nil => simp [doOp] at h
  | cons a f =>
    rw [List.cons_append]
    simp only [doOp] at h ⊢
    split at h
    · cases h; rename_i e; rw [if_pos e]; rfl
    · rename_i e1
      rw [if_neg e1]
      split at h
      · cases h; rename_i e; rw [if_pos e]; rfl
      · rename_i e2
        rw [if_neg e2]
        split at h
        · cases h; rename_i e; rw [if_pos e]; rfl
        · rename_i e3
          rw [if_neg e3]
          cases f with
          | nil => cases h
          | cons b f =>
            simp only [List.cons_append]
            simp only at h
            split at h
            · cases h; rename_i e; rw [if_pos e]; rfl
            · rename_i e4
              rw [if_neg e4]
              split at h
              · cases h; rename_i e; rw [if_pos e]; rfl
              · cases h
theorem step_within {p q : Prog} {u : Str → Str} (hq : Has q p u) (hf : Fresh u) (k : List Task) (f0 : List T) (j : Nat) {a b : M} (h : step p a = some b) :
    step q (a.within u k f0 j) = some (b.within u k f0 j) := by
  obtain ⟨todo, f, n⟩ := a
  cases todo with
  | nil => simp [step] at h
  | cons t k0 =>
    cases t with
    | ev e r =>
      cases e with
      | v x =>
        simp only [step, Option.map_eq_some_iff] at h
        obtain ⟨t, e, rfl⟩ := h
        simp only [M.within, List.map_cons, List.cons_append, Task.ren, E.ren, step, e, Option.map_some]
        simp only [Option.some.injEq, M.mk.injEq, true_and]; omega
      | q t =>
        simp only [step, Option.some.injEq] at h; subst h
        simp only [M.within, List.map_cons, List.cons_append, Task.ren, E.ren, step]
        simp only [Option.some.injEq, M.mk.injEq, true_and]; omega
      | app w es =>
        simp only [step] at h
        simp only [M.within, List.map_cons, List.cons_append, Task.ren, E.ren, step]
        by_cases e : w = sIf
        · subst e
          rw [if_pos rfl] at h
          rw [if_pos sp_if, if_pos rfl]
          match es, h with
          | [a, b, c], h =>
            cases h
            simp only [renL, List.map_cons, List.cons_append, Task.ren, Option.some.injEq, M.mk.injEq, true_and]; omega
        · rw [if_neg e] at h
          by_cases eq : w = sQuote
          · rw [if_pos eq] at h; cases h
          rw [if_neg eq] at h
          cases h
          have hlen : (renL u es).length = es.length := by rw [renL_map, List.length_map]
          have hmap : (renL u es).map (fun e => Task.ev e r) = (es.map fun e => Task.ev e r).map (Task.ren u) := by
            rw [renL_map, List.map_map, List.map_map]; rfl
          by_cases hs : (special w).isSome = true
          · have hp : plain w = true := by
              rcases sp_cases hs with z | z | z
              · exact absurd z e
              · exact absurd z eq
              · exact z
            rw [if_pos hs, if_neg e, if_neg eq, if_pos hp, if_pos hp, hmap]
            simp only [List.map_append, List.map_cons, Task.ren, List.append_assoc, List.cons_append, Option.some.injEq, M.mk.injEq, true_and]; omega
          · have hp : ¬ plain w = true := fun z => hs (plain_sp z)
            have hu : special (u w) = none := hf w
            have n1 : ¬ u w = sIf := fun z => by rw [z] at hu; have := sp_if; rw [hu] at this; cases this
            have n2 : ¬ u w = sQuote := fun z => by rw [z] at hu; have := sp_quote; rw [hu] at this; cases this
            have n3 : ¬ plain (u w) = true := fun z => by have := plain_sp z; rw [hu] at this; cases this
            rw [if_neg hs, if_neg n1, if_neg n2, if_neg hp, if_neg n3, hmap, hlen]
            simp only [List.map_append, List.map_cons, Task.ren, List.append_assoc, List.cons_append, Option.some.injEq, M.mk.injEq, true_and]; omega
    | br a b r =>
      cases f with
      | nil => simp [step] at h
      | cons t f =>
        simp only [step, Option.some.injEq] at h; subst h
        simp only [M.within, List.map_cons, List.cons_append, Task.ren, step]
        by_cases e : t = nil
        · simp only [e, if_true]
        · simp only [e, if_false]
    | op w =>
      simp only [step, Option.map_eq_some_iff] at h
      obtain ⟨f', e, rfl⟩ := h
      simp only [M.within, List.map_cons, List.cons_append, Task.ren, step, doOp_app e f0, Option.map_some]
    | call g m =>
      simp only [step] at h
      split at h
      · rename_i fn e
        split at h
        · rename_i hc
          cases h
          have e2 := hq g fn e
          simp only [M.within, List.map_cons, List.cons_append, Task.ren, step, e2]
          rw [if_pos ⟨hc.1, by rw [List.length_append]; omega⟩]
          rw [List.take_append_of_le_length hc.2, List.drop_append_of_le_length hc.2]
        · cases h
      · cases h
/-- the larger program goes from one state to another in so many turns -/
inductive Goes (p : Prog) : M → Nat → M → Prop
  | here {a : M} : Goes p a 0 a
  | go {a b c : M} {m : Nat} : step p a = some b → Goes p b m c → Goes p a (m + 1) c
theorem Goes.trans {p : Prog} {a b c : M} {m n : Nat} (h : Goes p a m b) (k : Goes p b n c) : Goes p a (m + n) c := by
  induction h with
  | here => rw [Nat.zero_add]; exact k
  | go e _ ih => rw [Nat.add_right_comm]; exact .go e (ih k)
theorem Goes.one {p : Prog} {a b : M} (h : step p a = some b) : Goes p a 1 b := .go h .here
theorem Goes.runs {p : Prog} {a b : M} {m n s : Nat} {t : T} (h : Goes p a m b) (k : Runs p b n t s) : Runs p a (m + n) t s := by
  induction h with
  | here => rw [Nat.zero_add]; exact k
  | go e _ ih => rw [Nat.add_right_comm]; exact .go e (ih k)
theorem goes_within {p q : Prog} {u : Str → Str} (hq : Has q p u) (hf : Fresh u) (k : List Task) (f0 : List T) (j : Nat) {a : M} {m n : Nat} {t : T} (h : Runs p a m t n) :
    Goes q (a.within u k f0 j) m ⟨k, t :: f0, n + j⟩ := by
  induction h with
  | fin => exact .here
  | go e _ ih => exact .go (step_within hq hf k f0 j e) ih
end K46
/-! How deep and how wide the values of a run are; a run that is typed does not get stuck. -/
namespace K46
open PySem

abbrev Gm := List (Str × Nat)
mutual
inductive Ty (B : Nat) (G : Str → List Nat → Nat → Prop) (C : Gm) : E → Nat → Prop
  | v {x : Str} {d1 d : Nat} : C.lookup x = some d1 → d1 ≤ d → d ≤ B → Ty B G C (.v x) d
  | q {t : T} {d : Nat} : t.depth ≤ d → t.wide ≤ 16 → t.Ok → d ≤ B → Ty B G C (.q t) d
  | ite {a b c : E} {d1 d2 d3 d : Nat} : Ty B G C a d1 → Ty B G C b d2 → Ty B G C c d3 → d2 ≤ d → d3 ≤ d → d ≤ B → Ty B G C (.app sIf [a, b, c]) d
  | same {a b : E} {d1 d2 d : Nat} : Ty B G C a d1 → Ty B G C b d2 → 1 ≤ d → d ≤ B → Ty B G C (.app sSame [a, b]) d
  | word {a : E} {d1 d : Nat} : Ty B G C a d1 → 1 ≤ d → d ≤ B → Ty B G C (.app sWord [a]) d
  | head {a : E} {d1 d : Nat} : Ty B G C a d1 → d1 ≤ d + 1 → 1 ≤ d → d ≤ B → Ty B G C (.app sHead [a]) d
  | tail {a : E} {d1 d : Nat} : Ty B G C a d1 → d1 ≤ d → 1 ≤ d → d ≤ B → Ty B G C (.app sTail [a]) d
  | join {a b : E} {d1 d2 d : Nat} : Ty B G C a d1 → Ty B G C b d2 → d1 + 1 ≤ d → d2 ≤ d → d ≤ B → Ty B G C (.app sJoin [a, b]) d
  | call {g : Str} {as : List E} {ds : List Nat} {d1 d : Nat} : special g = none → G g ds d1 → d1 ≤ d → d ≤ B → Tys B G C as ds → Ty B G C (.app g as) d
inductive Tys (B : Nat) (G : Str → List Nat → Nat → Prop) (C : Gm) : List E → List Nat → Prop
  | nil : Tys B G C [] []
  | cons {a : E} {as : List E} {d : Nat} {ds : List Nat} : Ty B G C a d → Tys B G C as ds → Tys B G C (a :: as) (d :: ds)
end
theorem Tys.length {B : Nat} {G : Str → List Nat → Nat → Prop} {C : Gm} : ∀ {as : List E} {ds : List Nat}, Tys B G C as ds → as.length = ds.length
  | [], _, h => by cases h; rfl
  | _ :: _, _, h => by
    cases h with
    | cons _ k => rw [List.length_cons, List.length_cons, Tys.length k]

structure OkV (N d : Nat) (t : T) : Prop where
  dep : t.depth ≤ d
  wid : t.wide ≤ 16 + N
  ok : t.Ok
theorem OkV.mono {N M d : Nat} {t : T} (h : OkV N d t) (k : N ≤ M) : OkV M d t := ⟨h.dep, Nat.le_trans h.wid (by omega), h.ok⟩
theorem OkV.up {N d e : Nat} {t : T} (h : OkV N d t) (k : d ≤ e) : OkV N e t := ⟨Nat.le_trans h.dep k, h.wid, h.ok⟩
inductive OkVs (N : Nat) : List T → List Nat → Prop
  | nil : OkVs N [] []
  | cons {t : T} {d : Nat} {ts : List T} {ds : List Nat} : OkV N d t → OkVs N ts ds → OkVs N (t :: ts) (d :: ds)
theorem OkVs.mono {N M : Nat} {ts : List T} {ds : List Nat} (h : OkVs N ts ds) (k : N ≤ M) : OkVs M ts ds := by
  induction h with
  | nil => exact .nil
  | cons h _ ih => exact .cons (h.mono k) ih
theorem OkVs.length {N : Nat} {ts : List T} {ds : List Nat} (h : OkVs N ts ds) : ts.length = ds.length := by
  induction h with
  | nil => rfl
  | cons _ _ ih => rw [List.length_cons, List.length_cons, ih]
theorem OkVs.append {N : Nat} {ts us : List T} {ds es : List Nat} (h : OkVs N ts ds) (k : OkVs N us es) : OkVs N (ts ++ us) (ds ++ es) := by
  induction h with
  | nil => exact k
  | cons h _ ih => exact .cons h ih
theorem OkVs.reverse {N : Nat} {ts : List T} {ds : List Nat} (h : OkVs N ts ds) : OkVs N ts.reverse ds.reverse := by
  induction h with
  | nil => exact .nil
  | cons h _ ih => rw [List.reverse_cons, List.reverse_cons]; exact ih.append (.cons h .nil)
theorem OkVs.split {N : Nat} : ∀ {ts : List T} {ds es : List Nat}, OkVs N ts (ds ++ es) → OkVs N (ts.take ds.length) ds ∧ OkVs N (ts.drop ds.length) es
  | ts, [], es, h => ⟨by simpa using OkVs.nil, by simpa using h⟩
  | _, d :: ds, es, h => by
    rw [List.cons_append] at h
    cases h with
    | cons a b =>
      obtain ⟨h1, h2⟩ := OkVs.split b
      exact ⟨.cons a h1, h2⟩
/-- an environment has what its type says -/
def EnvOk (N : Nat) (r : List (Str × T)) (C : Gm) : Prop := ∀ x d, C.lookup x = some d → ∃ t, r.lookup x = some t ∧ OkV N d t
theorem EnvOk.mono {N M : Nat} {r : List (Str × T)} {C : Gm} (h : EnvOk N r C) (k : N ≤ M) : EnvOk M r C := fun x d e =>
  let ⟨t, e1, e2⟩ := h x d e; ⟨t, e1, e2.mono k⟩
theorem EnvOk.zip {N : Nat} : ∀ {ps : List Str} {ts : List T} {ds : List Nat}, OkVs N ts ds → EnvOk N (ps.zip ts) (ps.zip ds)
  | [], _, _, _ => fun x d e => by simp at e
  | _ :: _, _, _, .nil => fun x d e => by simp at e
  | p :: ps, _, _, .cons (t := t) (d := d0) h k => fun x d e => by
    rw [List.zip_cons_cons, List.lookup_cons] at e
    rw [List.zip_cons_cons, List.lookup_cons]
    cases c : x == p with
    | true =>
      rw [c] at e
      cases e
      exact ⟨t, rfl, h⟩
    | false =>
      rw [c] at e
      exact EnvOk.zip k x d e
inductive KT (B : Nat) (G : Str → List Nat → Nat → Prop) (N : Nat) : List Task → List Nat → Prop
  | nil {d : Nat} : d ≤ B → KT B G N [] [d]
  | ev {e : E} {r : List (Str × T)} {C : Gm} {d1 d : Nat} {k : List Task} {ds : List Nat} : EnvOk N r C → Ty B G C e d1 → d1 ≤ d → KT B G N k (d :: ds) → KT B G N (.ev e r :: k) ds
  | br {a b : E} {r : List (Str × T)} {C : Gm} {d0 d1 d2 d : Nat} {k : List Task} {ds : List Nat} : EnvOk N r C → Ty B G C a d1 → Ty B G C b d2 → d1 ≤ d → d2 ≤ d → KT B G N k (d :: ds) → d0 ≤ B → KT B G N (.br a b r :: k) (d0 :: ds)
  | word {d0 d : Nat} {k : List Task} {ds : List Nat} : 1 ≤ d → KT B G N k (d :: ds) → d0 ≤ B → KT B G N (.op sWord :: k) (d0 :: ds)
  | head {d0 d : Nat} {k : List Task} {ds : List Nat} : d0 ≤ d + 1 → 1 ≤ d → KT B G N k (d :: ds) → d0 ≤ B → KT B G N (.op sHead :: k) (d0 :: ds)
  | tail {d0 d : Nat} {k : List Task} {ds : List Nat} : d0 ≤ d → 1 ≤ d → KT B G N k (d :: ds) → d0 ≤ B → KT B G N (.op sTail :: k) (d0 :: ds)
  | same {d0 d1 d : Nat} {k : List Task} {ds : List Nat} : 1 ≤ d → KT B G N k (d :: ds) → d0 ≤ B → d1 ≤ B → KT B G N (.op sSame :: k) (d0 :: d1 :: ds)
  | join {d0 d1 d : Nat} {k : List Task} {ds : List Nat} : d1 + 1 ≤ d → d0 ≤ d → KT B G N k (d :: ds) → d0 ≤ B → d1 ≤ B → KT B G N (.op sJoin :: k) (d0 :: d1 :: ds)
  | call {g : Str} {es : List Nat} {d1 d : Nat} {k : List Task} {ds : List Nat} : G g es d1 → d1 ≤ d → (∀ e ∈ es, e ≤ B) → KT B G N k (d :: ds) → KT B G N (.call g es.length :: k) (es.reverse ++ ds)
theorem KT.mono {B : Nat} {G : Str → List Nat → Nat → Prop} {N M : Nat} {k : List Task} {ds : List Nat} (h : KT B G N k ds) (hk : N ≤ M) : KT B G M k ds := by
  induction h with
  | nil h => exact .nil h
  | ev a b c _ ih => exact .ev (a.mono hk) b c ih
  | br a b c d e _ f ih => exact .br (a.mono hk) b c d e ih f
  | word a _ c ih => exact .word a ih c
  | head a b _ c ih => exact .head a b ih c
  | tail a b _ c ih => exact .tail a b ih c
  | same a _ b c ih => exact .same a ih b c
  | join a b _ c d ih => exact .join a b ih c d
  | call a b c _ ih => exact .call a b c ih
theorem KT.le {B : Nat} {G : Str → List Nat → Nat → Prop} {N : Nat} {k : List Task} {ds : List Nat} (h : KT B G N k ds) : ∀ d ∈ ds, d ≤ B := by
  induction h with
  | nil h => intro d hd; cases List.mem_singleton.mp hd; exact h
  | ev _ _ _ _ ih => exact fun d hd => ih d (List.mem_cons_of_mem _ hd)
  | br _ _ _ _ _ _ f ih =>
    intro d hd
    rcases List.mem_cons.mp hd with rfl | hd
    · exact f
    · exact ih d (List.mem_cons_of_mem _ hd)
  | word _ _ f ih =>
    intro d hd
    rcases List.mem_cons.mp hd with rfl | hd
    · exact f
    · exact ih d (List.mem_cons_of_mem _ hd)
  | head _ _ _ f ih =>
    intro d hd
    rcases List.mem_cons.mp hd with rfl | hd
    · exact f
    · exact ih d (List.mem_cons_of_mem _ hd)
  | tail _ _ _ f ih =>
    intro d hd
    rcases List.mem_cons.mp hd with rfl | hd
    · exact f
    · exact ih d (List.mem_cons_of_mem _ hd)
  | same _ _ f g ih =>
    intro d hd
    rcases List.mem_cons.mp hd with rfl | hd
    · exact f
    · rcases List.mem_cons.mp hd with rfl | hd
      · exact g
      · exact ih d (List.mem_cons_of_mem _ hd)
  | join _ _ _ f g ih =>
    intro d hd
    rcases List.mem_cons.mp hd with rfl | hd
    · exact f
    · rcases List.mem_cons.mp hd with rfl | hd
      · exact g
      · exact ih d (List.mem_cons_of_mem _ hd)
  | call _ _ f _ ih =>
    intro d hd
    rcases List.mem_append.mp hd with hd | hd
    · exact f d (List.mem_reverse.mp hd)
    · exact ih d (List.mem_cons_of_mem _ hd)
theorem Ty.le {B : Nat} {G : Str → List Nat → Nat → Prop} {C : Gm} {e : E} {d : Nat} (h : Ty B G C e d) : d ≤ B := by
  cases h <;> assumption
theorem Tys.le {B : Nat} {G : Str → List Nat → Nat → Prop} {C : Gm} : ∀ {as : List E} {ds : List Nat}, Tys B G C as ds → ∀ d ∈ ds, d ≤ B
  | [], _, h => by cases h; exact fun _ h => nomatch h
  | _ :: _, _, h => by
    cases h with
    | cons a k =>
      intro d hd
      rcases List.mem_cons.mp hd with rfl | hd
      · exact a.le
      · exact Tys.le k d hd
/-- the parts of a call are evaluated first -/
theorem KT.evs {B : Nat} {G : Str → List Nat → Nat → Prop} {N : Nat} {r : List (Str × T)} {C : Gm} (hr : EnvOk N r C) {k : List Task} : ∀ {as : List E} {es ds : List Nat}, Tys B G C as es → KT B G N k (es.reverse ++ ds) → KT B G N (as.map (fun e => Task.ev e r) ++ k) ds
  | [], _, ds, h, hk => by cases h; exact hk
  | a :: as, _, ds, h, hk => by
    cases h with
    | @cons _ _ d es h1 h2 =>
      rw [List.reverse_cons, List.append_assoc] at hk
      exact .ev hr h1 (Nat.le_refl _) (KT.evs hr h2 hk)
structure TyP (B : Nat) (G : Str → List Nat → Nat → Prop) (p : Prog) : Prop where
  has : ∀ g ds d, G g ds d → (∀ e ∈ ds, e ≤ B) → d ≤ B → ∃ fn, look p g = some fn ∧ fn.ps.length = ds.length ∧ ∃ d1, d1 ≤ d ∧ Ty B G (fn.ps.zip ds) fn.body d1
structure StOk (B : Nat) (G : Str → List Nat → Nat → Prop) (N : Nat) (a : M) : Prop where
  tys : ∃ ds, KT B G N a.todo ds ∧ OkVs N a.found ds

/-! ### the plain operations -/
theorem items_length (t : T) : (tItems t).length ≤ t.wide := by
  cases t with
  | w x => exact Nat.zero_le _
  | l ts => exact Nat.le_max_left _ _
theorem item_wide {t u : T} (h : u ∈ tItems t) : u.wide ≤ t.wide := by
  cases t with
  | w x => cases h
  | l ts => exact Nat.le_trans (wide_mem h) (Nat.le_max_right _ _)
theorem item_depth {t u : T} (h : u ∈ tItems t) : u.depth + 1 ≤ t.depth := by
  cases t with
  | w x => cases h
  | l ts => exact depth_mem h
theorem items_ok {t u : T} (h : u ∈ tItems t) (k : t.Ok) : u.Ok := by
  cases t with
  | w x => cases h
  | l ts => exact OkL_iff.mp k u h
theorem wordOk_of {x : Str} (h : (decide (x.cps.toList.length ≤ 12) && (match x.cps.toList with | [] => false | c :: _ => isLet c) && x.cps.toList.all isAl) = true) : WordOk x := by
  simp only [Bool.and_eq_true, decide_eq_true_eq, List.all_eq_true] at h
  refine ⟨h.1.1, ?_, h.2⟩
  have h2 := h.1.2
  split at h2
  · cases h2
  · next c r e => exact ⟨c, r, e, h2⟩
theorem yes_ok : yes.Ok := wordOk_of (x := sYes) (by decide +kernel)
theorem okv_nil {N d : Nat} (h : 1 ≤ d) : OkV N d nil := ⟨by simpa [T.depth, depthL] using h, by simp [T.wide, wideL], trivial⟩
theorem okv_ofB {N d : Nat} (h : 1 ≤ d) (b : Bool) : OkV N d (ofB b) := by
  cases b with
  | true => exact ⟨Nat.zero_le _, Nat.zero_le _, yes_ok⟩
  | false => exact okv_nil h
theorem okv_head {N d0 d : Nat} {t : T} (h : OkV N d0 t) (k : d0 ≤ d + 1) (k1 : 1 ≤ d) : OkV N d (tHead t) := by
  unfold tHead
  cases e : tItems t with
  | nil => exact okv_nil k1
  | cons u us =>
    have hu : u ∈ tItems t := by rw [e]; exact List.mem_cons_self
    refine ⟨?_, Nat.le_trans (item_wide hu) h.wid, items_ok hu h.ok⟩
    have := item_depth hu
    have := h.dep
    show u.depth ≤ d
    omega
theorem okv_tail {N d0 d : Nat} {t : T} (h : OkV N d0 t) (k : d0 ≤ d) (k1 : 1 ≤ d) : OkV N d (tTail t) := by
  unfold tTail
  refine ⟨?_, ?_, OkL_iff.mpr fun u hu => items_ok (List.mem_of_mem_tail hu) h.ok⟩
  · rw [T.depth]
    refine depthL_le k1 fun u hu => ?_
    have := item_depth (List.mem_of_mem_tail hu)
    have := h.dep
    omega
  · rw [T.wide]
    refine Nat.max_le.mpr ⟨?_, wideL_le fun u hu => Nat.le_trans (item_wide (List.mem_of_mem_tail hu)) h.wid⟩
    rw [List.length_tail]
    have := items_length t
    have := h.wid
    omega
theorem okv_join {N d0 d1 d : Nat} {a b : T} (ha : OkV N d1 a) (hb : OkV N d0 b) (k1 : d1 + 1 ≤ d) (k0 : d0 ≤ d) : OkV (N + 1) d (tJoin a b) := by
  unfold tJoin
  have h1 := ha.dep
  have h2 := ha.wid
  have h3 := hb.dep
  have h4 := hb.wid
  refine ⟨?_, ?_, ⟨ha.ok, OkL_iff.mpr fun u hu => items_ok hu hb.ok⟩⟩
  · rw [T.depth, depthL]
    refine Nat.max_le.mpr ⟨by omega, depthL_le (by omega) fun u hu => ?_⟩
    have := item_depth hu
    omega
  · rw [T.wide, wideL]
    refine Nat.max_le.mpr ⟨?_, Nat.max_le.mpr ⟨by omega, wideL_le fun u hu => ?_⟩⟩
    · rw [List.length_cons]
      have := items_length b
      omega
    · have := item_wide hu
      omega
theorem ww : ¬ sHead = sWord := by decide +kernel
theorem tw : ¬ sTail = sWord := by decide +kernel
theorem th : ¬ sTail = sHead := by decide +kernel
theorem mw : ¬ sSame = sWord := by decide +kernel
theorem mh : ¬ sSame = sHead := by decide +kernel
theorem mt : ¬ sSame = sTail := by decide +kernel
theorem jw : ¬ sJoin = sWord := by decide +kernel
theorem jh : ¬ sJoin = sHead := by decide +kernel
theorem jt : ¬ sJoin = sTail := by decide +kernel
theorem js : ¬ sJoin = sSame := by decide +kernel
theorem do_word (a : T) (f : List T) : doOp sWord (a :: f) = some (ofB (isW a) :: f) := by simp only [doOp, if_true]
theorem do_head (a : T) (f : List T) : doOp sHead (a :: f) = some (tHead a :: f) := by simp only [doOp, if_neg ww, if_true]
theorem do_tail (a : T) (f : List T) : doOp sTail (a :: f) = some (tTail a :: f) := by simp only [doOp, if_neg tw, if_neg th, if_true]
theorem do_same (a b : T) (f : List T) : doOp sSame (a :: b :: f) = some (ofB (decide (b = a)) :: f) := by simp only [doOp, if_neg mw, if_neg mh, if_neg mt, if_true]
theorem do_join (a b : T) (f : List T) : doOp sJoin (a :: b :: f) = some (tJoin b a :: f) := by simp only [doOp, if_neg jw, if_neg jh, if_neg jt, if_neg js, if_true]
theorem p_same : plain sSame = true := by decide +kernel
theorem p_word : plain sWord = true := by decide +kernel
theorem p_head : plain sHead = true := by decide +kernel
theorem p_tail : plain sTail = true := by decide +kernel
theorem p_join : plain sJoin = true := by decide +kernel
theorem plain_not_if {w : Str} (h : plain w = true) : ¬ w = sIf := fun e => by rw [e, if_not_plain] at h; cases h
theorem plain_not_quote {w : Str} (h : plain w = true) : ¬ w = sQuote := fun e => by rw [e, quote_not_plain] at h; cases h
theorem none_not_plain {w : Str} (h : special w = none) : ¬ plain w = true := fun e => by have := plain_sp e; rw [h] at this; cases this
theorem none_not_if {w : Str} (h : special w = none) : ¬ w = sIf := fun e => by have := sp_if; rw [← e, h] at this; cases this
theorem none_not_quote {w : Str} (h : special w = none) : ¬ w = sQuote := fun e => by have := sp_quote; rw [← e, h] at this; cases this
theorem step_plain {p : Prog} {w : Str} (h : plain w = true) (es : List E) (r : List (Str × T)) (k : List Task) (f : List T) (n : Nat) :
    step p ⟨.ev (.app w es) r :: k, f, n⟩ = some ⟨es.map (fun e => Task.ev e r) ++ Task.op w :: k, f, n + 1⟩ := by
  simp only [step, if_neg (plain_not_if h), if_neg (plain_not_quote h), if_pos h]
theorem step_callE {p : Prog} {w : Str} (h : special w = none) (es : List E) (r : List (Str × T)) (k : List Task) (f : List T) (n : Nat) :
    step p ⟨.ev (.app w es) r :: k, f, n⟩ = some ⟨es.map (fun e => Task.ev e r) ++ Task.call w es.length :: k, f, n + 1⟩ := by
  simp only [step, if_neg (none_not_if h), if_neg (none_not_quote h), if_neg (none_not_plain h)]
theorem step_if {p : Prog} (a b c : E) (r : List (Str × T)) (k : List Task) (f : List T) (n : Nat) :
    step p ⟨.ev (.app sIf [a, b, c]) r :: k, f, n⟩ = some ⟨.ev a r :: .br b c r :: k, f, n + 1⟩ := by
  simp only [step, if_true]
theorem step_v {p : Prog} {x : Str} {r : List (Str × T)} {t : T} (h : r.lookup x = some t) (k : List Task) (f : List T) (n : Nat) : step p ⟨.ev (.v x) r :: k, f, n⟩ = some ⟨k, t :: f, n + 1⟩ := by
  simp only [step, h, Option.map_some]
theorem step_op {p : Prog} {w : Str} {f f' : List T} (h : doOp w f = some f') (k : List Task) (n : Nat) : step p ⟨.op w :: k, f, n⟩ = some ⟨k, f', n⟩ := by
  simp only [step, h, Option.map_some]
/-- a typed state that has something to do goes on, to a typed state -/
theorem StOk.next {B : Nat} {G : Str → List Nat → Nat → Prop} {p : Prog} {N : Nat} {a : M} (hp : TyP B G p) (h : StOk B G N a) (hn : a.todo ≠ []) : ∃ b, step p a = some b ∧ StOk B G (N + 1) b := by
  have hN : N ≤ N + 1 := Nat.le_succ N
  obtain ⟨todo, f, n⟩ := a
  obtain ⟨ds, hk, hv⟩ := h.tys
  cases hk with
  | nil => exact absurd rfl hn
  | ev he ht hd hk =>
    cases ht with
    | v e1 e2 e3 =>
      obtain ⟨t, e4, e5⟩ := he _ _ e1
      exact ⟨_, step_v e4 .., ⟨_, hk.mono hN, .cons ((e5.mono hN).up (by omega)) (hv.mono hN)⟩⟩
    | q e1 e2 e4 e3 => exact ⟨_, rfl, ⟨_, hk.mono hN, .cons ⟨by omega, by omega, e4⟩ (hv.mono hN)⟩⟩
    | ite ha hb hc e1 e2 e3 => exact ⟨_, step_if .., ⟨_, .ev (he.mono hN) ha (Nat.le_refl _) (.br (he.mono hN) hb hc (by omega) (by omega) (hk.mono hN) ha.le), hv.mono hN⟩⟩
    | same ha hb e1 e2 => exact ⟨_, step_plain p_same .., ⟨_, KT.evs (he.mono hN) (.cons ha (.cons hb .nil)) (.same (by omega) (hk.mono hN) hb.le ha.le), hv.mono hN⟩⟩
    | word ha e1 e2 => exact ⟨_, step_plain p_word .., ⟨_, KT.evs (he.mono hN) (.cons ha .nil) (.word (by omega) (hk.mono hN) ha.le), hv.mono hN⟩⟩
    | head ha e0 e1 e2 => exact ⟨_, step_plain p_head .., ⟨_, KT.evs (he.mono hN) (.cons ha .nil) (.head (by omega) (by omega) (hk.mono hN) ha.le), hv.mono hN⟩⟩
    | tail ha e0 e1 e2 => exact ⟨_, step_plain p_tail .., ⟨_, KT.evs (he.mono hN) (.cons ha .nil) (.tail (by omega) (by omega) (hk.mono hN) ha.le), hv.mono hN⟩⟩
    | join ha hb e0 e1 e2 => exact ⟨_, step_plain p_join .., ⟨_, KT.evs (he.mono hN) (.cons ha (.cons hb .nil)) (.join (by omega) (by omega) (hk.mono hN) hb.le ha.le), hv.mono hN⟩⟩
    | call hs hg e1 e2 hts =>
      refine ⟨_, step_callE hs .., ⟨_, KT.evs (he.mono hN) hts ?_, hv.mono hN⟩⟩
      rw [hts.length]
      exact .call hg (by omega) hts.le (hk.mono hN)
  | br he ha hb e1 e2 hk e3 =>
    cases hv with
    | @cons t _ f _ ht hv =>
      refine ⟨_, rfl, ⟨_, ?_, hv.mono hN⟩⟩
      by_cases e : t = nil
      · rw [if_pos e]; exact .ev (he.mono hN) hb e2 (hk.mono hN)
      · rw [if_neg e]; exact .ev (he.mono hN) ha e1 (hk.mono hN)
  | word e1 hk e2 =>
    cases hv with
    | cons ht hv => exact ⟨_, step_op (do_word ..) .., ⟨_, hk.mono hN, .cons (okv_ofB e1 _) (hv.mono hN)⟩⟩
  | head e0 e1 hk e2 =>
    cases hv with
    | cons ht hv => exact ⟨_, step_op (do_head ..) .., ⟨_, hk.mono hN, .cons (okv_head (ht.mono hN) e0 e1) (hv.mono hN)⟩⟩
  | tail e0 e1 hk e2 =>
    cases hv with
    | cons ht hv => exact ⟨_, step_op (do_tail ..) .., ⟨_, hk.mono hN, .cons (okv_tail (ht.mono hN) e0 e1) (hv.mono hN)⟩⟩
  | same e1 hk e2 e3 =>
    cases hv with
    | cons ht hv =>
      cases hv with
      | cons ht2 hv => exact ⟨_, step_op (do_same ..) .., ⟨_, hk.mono hN, .cons (okv_ofB e1 _) (hv.mono hN)⟩⟩
  | join e0 e1 hk e2 e3 =>
    cases hv with
    | cons ht hv =>
      cases hv with
      | cons ht2 hv => exact ⟨_, step_op (do_join ..) .., ⟨_, hk.mono hN, .cons (okv_join ht2 ht e0 e1) (hv.mono hN)⟩⟩
  | @call g es d1 d k ds0 hg e1 e2 hk =>
    have hdB : d ≤ B := hk.le _ List.mem_cons_self
    obtain ⟨fn, h1, h2, d2, h3, h4⟩ := hp.has g es d1 hg e2 (by omega)
    have hl := hv.length
    rw [List.length_append, List.length_reverse] at hl
    obtain ⟨hv1, hv2⟩ := OkVs.split hv
    rw [List.length_reverse] at hv1 hv2
    have hv3 : OkVs N (f.take es.length).reverse es := by
      have := hv1.reverse
      rwa [List.reverse_reverse] at this
    refine ⟨⟨.ev fn.body (fn.ps.zip (f.take es.length).reverse) :: k, f.drop es.length, n⟩, ?_, ⟨_, .ev ((EnvOk.zip (ps := fn.ps) hv3).mono hN) h4 (by omega) (hk.mono hN), hv2.mono hN⟩⟩
    have hf2 : es.length = fn.ps.length ∧ es.length ≤ f.length := ⟨h2.symm, by simp only at hl; omega⟩
    simp only [step, h1]
    rw [if_pos hf2]
theorem StOk.fin {B : Nat} {G : Str → List Nat → Nat → Prop} {N : Nat} {a : M} (h : StOk B G N a) (hn : a.todo = []) : ∃ t, a.found = [t] ∧ OkV N B t := by
  obtain ⟨todo, f, n⟩ := a
  obtain ⟨ds, hk, hv⟩ := h.tys
  simp only at hn
  subst hn
  cases hk with
  | nil hd =>
    cases hv with
    | cons ht hv => cases hv; exact ⟨_, rfl, ht.up hd⟩
/-- every value that stands in a typed state -/
theorem StOk.found {B : Nat} {G : Str → List Nat → Nat → Prop} {N : Nat} {a : M} (h : StOk B G N a) : ∀ t ∈ a.found, OkV N B t := by
  obtain ⟨ds, hk, hv⟩ := h.tys
  have key : ∀ {ts : List T} {ds : List Nat}, OkVs N ts ds → (∀ d ∈ ds, d ≤ B) → ∀ t ∈ ts, OkV N B t := by
    intro ts ds hv
    induction hv with
    | nil => exact fun _ _ h => nomatch h
    | cons ht _ ih =>
      intro hd t hm
      rcases List.mem_cons.mp hm with rfl | hm
      · exact ht.up (hd _ List.mem_cons_self)
      · exact ih (fun d hm => hd d (List.mem_cons_of_mem _ hm)) t hm
  exact key hv hk.le
end K46
/-! Rules that the hand layer lacks: list.extend(tuple), text * int, enumerate(tuple), zip(list, tuple). -/
namespace K46
open PySem PySem.Spec PyProof.Rows L2
open AutoSeq1 (wpAny_loadPart')

/-! ### xs.extend(t), t a tuple -/
theorem list_extend_tupG (l : Addr) (items : Array Value) (n : Nat) (b : Addr) (items2 : Array Value) (n2 : Nat) (dct : Option Addr) (sl : Array (Option Value)) (hs0 : ¬(!items.isEmpty && Builtin.List.listTooLong (items.size + items2.size)) = true) (hs1 : items.size ≤ sizeLine) (hs2 : items.size + items2.size ≤ sizeLine + 1) :
    Meets (Builtin.«list.extend» ⟨[.ref l, .ref b], []⟩) (fun _ R s => s.heap.get? l = some { cls := .type "list", dict := none, data := .seq items n, slots := #[] } ∧ s.heap.get? b = some { cls := .type "tuple", dict := dct, data := .seq items2 n2, slots := sl } ∧ R (.ok (.ret Value.none)) { s with heap := s.heap.update l (Obj.mapSeq fun x => x ++ items2), toks := s.toks }) :=
  .of_wp fun prog w A R s h => by
    obtain ⟨hp, g, d, tk, os⟩ := s; obtain ⟨hl, hb, h⟩ := h; have f1 := AutoSeq1.idx_int; have f2 := AutoSeq1.sub_tuple_tuple; have f3 := AutoSeq1.sub_list_list; have f4 := AutoSeq1.sub_tuple_list; have f5 := AutoSeq1.sub_list_tuple;
    have hz' : (items ++ items2).size ≤ sizeLine + 1 := by rw [Array.size_append]; exact hs2
    wp_walk using (wpAny_updateSeq hl rfl (hz := hs1) (_hz' := hz')), wpAny_loadPart' hl, wpAny_loadPart' hb; exact ⟨_, rfl, h⟩
section
variable {X : Cx}
def rExtendT (K : PySem.W.Frag) : V → List V → Hp → VK → Prop := fun x vs H Q => ∃ l b xs zs, x = .ref l ∧ vs = [.ref b] ∧ H l = some (.lst xs) ∧ SqT K H b zs ∧ xs.length + zs.length ≤ sizeLine ∧ Q .non (upd H l (.lst (xs ++ zs)))
theorem mt_extendT : MtM X "list.extend" (rExtendT X.K) := by
  intro pins s σ H x vs v us Q I rx rv h
  obtain ⟨l, b, xs, zs, rfl, rfl, hH, hB, hz, q⟩ := h
  cases rx
  obtain ⟨u, rfl, ru⟩ := rv.one
  cases ru
  obtain ⟨z, its, n, r, hl, e⟩ := I.lstM hH
  obtain ⟨its2, r2, ⟨ob, eb, cb, n2, db⟩, z2⟩ := I.tuple hB
  have hl2 := r2.length
  obtain ⟨c, dct, dt, sl⟩ := ob
  replace cb : c = .type "tuple" := cb
  replace db : dt = .seq its2.toArray n2 := db
  subst cb db
  have hsz : its.toArray.size + its2.toArray.size ≤ sizeLine := by rw [List.size_toArray, List.size_toArray]; omega
  have hlong : ¬ (!its.toArray.isEmpty && Builtin.List.listTooLong (its.toArray.size + its2.toArray.size)) = true := by
    rw [notLongL hsz, Bool.and_false]
    exact Bool.false_ne_true
  refine call_meets F.slot_list_extend ⟨_, e, rfl⟩ F.entry_list_extend (F.args_list_extend_2 _ _)
    (list_extend_tupG l its.toArray n b its2.toArray n2 dct sl hlong (by rw [List.size_toArray]; omega) (by omega)) ⟨e, eb, ?_⟩
  refine ⟨.non, _, I.lset (its' := its ++ its2) hH e (by simp) (r.append r2) ?_, rfl, q⟩
  rw [List.length_append]
  omega

/-! ### c * n, c one sign -/
theorem rep_one (c : Nat) : ∀ n : Nat, (List.replicate n (#[c] : Array Nat)).foldl (· ++ ·) #[] = (List.replicate n c).toArray := by
  have key : ∀ (n : Nat) (acc : Array Nat), (List.replicate n (#[c] : Array Nat)).foldl (· ++ ·) acc = acc ++ (List.replicate n c).toArray := by
    intro n
    induction n with
    | zero => intro acc; simp
    | succ n ih =>
      intro acc
      rw [List.replicate_succ, List.foldl_cons, ih, List.replicate_succ]
      apply Array.ext'
      simp
  intro n
  rw [key]
  apply Array.ext'
  simp
theorem op_mulSign : OpR X (binaryOp .Mult) (fun x y H Q => ∃ (c : Nat) (n : Nat), x = .str ⟨#[c]⟩ ∧ y = .int (n : Int) ∧ n ≤ 1000 ∧ Q (.str ⟨(List.replicate n c).toArray⟩) H) := by
  intro pins s σ H x y v u Q I rx ry h
  obtain ⟨c, n, rfl, rfl, hn, q⟩ := h
  obtain ⟨t, rfl⟩ := rx
  obtain ⟨t', rfl⟩ := ry
  have hl : (⟨#[c]⟩ : Str).length = 1 := rfl
  refine P.mul_str ?_ ?_ ?_ ?_
  · have h1 : ¬ (n : Int) < -(2 ^ 63 : Int) := by omega
    have h2 : ¬ (n : Int) ≥ 2 ^ 63 := by omega
    rw [decide_eq_false h1, decide_eq_false h2]; rfl
  · intro _ _
    rw [hl]
    have h3 : (0 : Int) < n := by omega
    have : (1 : Int) ≤ (2 ^ 63 - 1) / (n : Int) := by
      refine (Int.le_ediv_iff_mul_le h3).mpr ?_
      omega
    show ¬ ((1 : Int) > (2 ^ 63 - 1) / (n : Int))
    omega
  · intro _ _
    rw [hl]
    show Builtin.Str.tooLong _ = false
    unfold Builtin.Str.tooLong
    have : ¬ 1 * (n : Int).toNat > sizeLine := by
      have : sizeLine = 16777216 := rfl
      omega
    simpa using this
  · by_cases h0 : n = 0
    · subst h0
      rw [if_pos (by decide)]
      exact ⟨by decide, .str Str.empty, H, I.tok _, ⟨_, rfl⟩, q⟩
    · have h1 : ¬ (n : Int) < 1 := by omega
      rw [if_neg h1]
      by_cases h2 : n = 1
      · subst h2
        rw [if_pos (show ((((1 : Nat) : Int) == 1) || (⟨#[c]⟩ : Str).length == 0) = true from rfl)]
        exact ⟨.str ⟨#[c]⟩, H, I, ⟨_, rfl⟩, q⟩
      · have h3 : ¬ ((n : Int) == 1 || (⟨#[c]⟩ : Str).length == 0) = true := by
          have e1 : ((n : Int) == 1) = false := beq_eq_false_iff_ne.mpr (by omega)
          rw [e1, hl]
          decide
        rw [if_neg h3]
        have e : (⟨(List.replicate (n : Int).toNat (⟨#[c]⟩ : Str).cps).foldl (· ++ ·) #[]⟩ : Str) = ⟨(List.replicate n c).toArray⟩ := by
          rw [Int.toNat_natCast]
          exact congrArg Str.mk (rep_one c n)
        rw [e]
        refine ⟨?_, .str ⟨(List.replicate n c).toArray⟩, H, I.tok _, ⟨_, rfl⟩, q⟩
        show (List.replicate n c).toArray.size ≤ _
        rw [List.size_toArray, List.length_replicate]
        exact Nat.le_trans hn (by decide)
end
end K46
/-! for .. in enumerate(tuple), for .. in zip(list, tuple). -/
namespace K46
open PySem PySem.Spec PyProof.Rows L2
open AutoSeq1 (wpAny_loadPart')

/-- a walk whose items are new tuples: n turns, the items told by their number; Src: what stands still -/
def ItF (Src : Hp → Prop) (n : Nat) (Y : Nat → List V → Prop) : It :=
  ⟨fun i H => i < n ∧ Src H, fun i H v H' => ∃ T vs, v = .ref T ∧ H T = none ∧ H' = upd H T (.tup vs) ∧ Y i vs, fun i H => i = n ∧ Src H⟩
theorem turn_walksT {P : Program} {w : World} {K : PySem.W.Frag} {elts : List Expr} {kk : Nat} {tpos : Pos} {e : Addr} {fp0 wr fp : List Addr} {n : Nat} {ι : Type} {nz : ι → Nat} {Y0 : ι → Nat → Array Value → Prop} {St0 : ι → Nat → Heap → Prop} {Mid : ι → Nat → Addr → Heap → Prop}
    {Src : Hp → Prop} {Y : Nat → List V → Prop} {tn : Nat → Heap → Prop}
    (W : ∀ (z : ι) (A : Around), A.handled = none → WalksT P w A e fp0 wr (nz z) (Y0 z) (St0 z) (Mid z))
    (hst : ∀ (X : Cx) (pins : List (Addr × Obj)) (σ : L2.St) (H : Hp) (s : Shared) (i : Nat), X.K = K → Inv X pins σ H s → Src H → tn i s.heap →
      ∃ z, St0 z i s.heap ∧ nz z = n ∧ ∀ vals, Y0 z i vals → ∃ vs, Vals vs vals.toList ∧ vs.length ≤ sizeLine ∧ Y i vs)
    (htn : ∀ z i h, St0 z i h → tn i h)
    (hwr : ∀ b ∈ wr, b ∈ fp) (hmem : e ∈ fp)
    (hobj : ∀ i h, tn i h → ∀ b ∈ fp, ∃ o, h.get? b = some o ∧ ∀ v, o.data ≠ .cell v)
    (hkeep : ∀ i h h', tn i h → (∀ b ∈ fp, ∀ o, h.get? b = some o → h'.get? b = some o) → tn i h')
    (hself : ∀ (A : Around) (i : Nat) (s : Shared) (Q : Value → Shared → Prop) (E : Value → Shared → Prop), tn i s.heap → Q (.ref e) s → wpAny (model P w) A (pyIter (.ref e)) Q E s) :
    Turn P w K (.Tuple elts kk tpos) (ItF Src n Y) fp e tn where
  mem := hmem
  obj := hobj
  keep := hkeep
  item := by
    intro X hP hw hK hc i pins s σ H E I hf st hg
    subst hP hw
    obtain ⟨hi, hs⟩ := hg
    obtain ⟨z, st0, hn0, hY⟩ := hst X pins σ H s i hK I hs st
    have W' := W z X.A (I.ok.hd hc)
    refine W'.item i s _ _ (by omega) st0 fun T vals h' tk hy hT tup mid hk => ?_
    refine ⟨_, rfl, W'.go elts kk tpos i T { s with heap := h', toks := tk } _ _ mid fun h'' st1 hk2 => ?_⟩
    obtain ⟨vs, rv, hz, hy'⟩ := hY vals hy
    have hTw : T ∉ wr := W'.apart i T h' mid
    have tup2 : IsTup h'' T vals := by
      obtain ⟨o, ho, hc, m, hd⟩ := tup
      exact ⟨o, hk2 T o hTw ho, hc, m, hd⟩
    have new : ObjOk X.prog X.w (upd H T (.tup vs)) h'' T (.tup vs) := ⟨hz, vals.toList, rv, by simpa using tup2⟩
    have hfw : ∀ b ∈ wr, FpOk X pins H b := fun b hb => hf b (hwr b hb)
    have hn : H T = none := I.hok.fresh hT
    refine ⟨.ref T, upd H T (.tup vs), I.turnedNew (t' := tk) (ch := wr) (fun b o hb q => hk2 b o hb (hk b o hb q)) hfw hT new, rfl, ⟨T, vs, rfl, hn, rfl, hy'⟩, htn z _ _ st1, fun b hb => ?_⟩
    obtain ⟨o, ho, _⟩ := hobj i s.heap st b hb
    have hlt : b < s.heap.objs.size := Heap.lt_size ho
    rw [upd_ne (Nat.ne_of_lt (Nat.lt_of_lt_of_le hlt hT))]
    exact (hf b hb).1
  done := by
    intro X hP hw hK hc i pins s σ H E I hf st hg
    subst hP hw
    obtain ⟨hi, hs⟩ := hg
    subst hi
    obtain ⟨z, st0, hn0, hY⟩ := hst X pins σ H s _ hK I hs st
    have W' := W z X.A (I.ok.hd hc)
    rw [← hn0] at st0
    refine W'.done s _ _ st0 fun h' tk hk => ⟨rfl, I.turnedL (t' := tk) (ch := wr) (fun b o hb q => hk b o hb q) fun b hb => hf b (hwr b hb)⟩
  self := hself
/-- a loop over such a walk -/
theorem for_F {Src : Hp → Prop} {n : Nat} {Y : Nat → List V → Prop} {g : TG} {tb : TS} {D : Ends} {σ : L2.St} {H : Hp} (Pv : Nat → L2.St → Hp → Prop) (h0 : Pv 0 σ H) (hq : ∀ i σ H, i ≤ n → Pv i σ H → Src H)
    (hs : ∀ (i : Nat) (vs : List V) (T : Addr) (σ : L2.St) (H : Hp), i < n → Y i vs → Pv i σ H → H T = none → g (.ref T) σ (upd H T (.tup vs)) fun σ2 H2 => tb { D with nx := Pv (i + 1), ct := Pv (i + 1), bk := D.nx } σ2 H2)
    (hd : ∀ σ H, Pv n σ H → D.nx σ H) :
    ∃ W : Nat → Nat → L2.St → Hp → Prop, (∃ m, W 0 m σ H) ∧ ∀ i m σ H, W i m σ H →
      ((ItF Src n Y).stop i H ∧ D.nx σ H) ∨ ((ItF Src n Y).go i H ∧ ∃ N : L2.St → Hp → Prop, (∀ σ' H', N σ' H' → ∃ m', m' < m ∧ W (i + 1) m' σ' H') ∧ ∀ x H', (ItF Src n Y).yld i H x H' → g x σ H' fun σ2 H2 => tb { D with nx := N, ct := N, bk := D.nx } σ2 H2) := by
  refine ⟨fun i m σ H => m = n - i ∧ i ≤ n ∧ Pv i σ H, ⟨n, by simp, Nat.zero_le _, h0⟩, ?_⟩
  rintro i m σ H ⟨rfl, hi, p⟩
  have q := hq i σ H hi p
  by_cases hlt : i < n
  · refine .inr ⟨⟨hlt, q⟩, Pv (i + 1), fun σ' H' p' => ⟨n - (i + 1), by omega, rfl, hlt, p'⟩, fun x H' y => ?_⟩
    obtain ⟨T, vs, rfl, hn, rfl, hy⟩ := y
    exact hs i vs T σ H hlt hy p hn
  · have e : i = n := by omega
    subst e
    exact .inl ⟨⟨rfl, q⟩, hd σ H p⟩

/-! ### enumerate(tuple) -/
theorem meets_enumerate_newB1 {v : Value} {o : Obj} {H : Heap → Prop} (B : Begins v o H) :
    Meets (Builtin.«enumerate.__new__» ⟨[.type "enumerate", v], []⟩) (fun _ R s => H s.heap ∧
      R (.ok (.ret (.ref (s.heap.push o).objs.size))) { s with heap := (s.heap.push o).push { cls := .type "enumerate", data := .fields #[.none, .bool false, .ref s.heap.objs.size, rawInt 0, .none, .none] } }) :=
  .of_wp fun prog w A R s h => by
    obtain ⟨hp, g, d, tk, os⟩ := s; obtain ⟨h1, h⟩ := h
    have hsub := sub_enumerate
    have q1 : ∀ {A' : Around} {E : Value → Shared → Prop} {Q : Value → Shared → Prop}, Q (.ref hp.objs.size) ⟨hp.push o, g, d, tk, os⟩ → wpAny (model prog w) A' (pyIter v) Q E ⟨hp, g, d, tk, os⟩ :=
      fun q => B.iter prog w _ _ ⟨hp, g, d, tk, os⟩ _ h1 q
    wp_walk using q1
    refine wpAny_stack_any fun st => wpAny_pure ?_
    split
    · rename_i c _ _ _ _ _
      cases (c == Value.type "enumerate")
      · wp_walk using q1
        exact ⟨_, rfl, h⟩
      · wp_walk using q1
        exact ⟨_, rfl, h⟩
    · wp_walk using q1
      exact ⟨_, rfl, h⟩
section
variable {prog : Program} {w : World} {A : Around} {E : Value → Shared → Prop} {s : Shared}
theorem enum_begins1 {v : Value} {o : Obj} {H : Heap → Prop} {Q : Value → Shared → Prop} (B : Begins v o H) (h1 : H s.heap)
    (h : ∀ h', IsEnum h' (s.heap.objs.size + 1) s.heap.objs.size 0 .none → h'.get? s.heap.objs.size = some o → h'.objs.size = s.heap.objs.size + 2 →
      (∀ b o, s.heap.get? b = some o → h'.get? b = some o) → Q (.ref (s.heap.objs.size + 1)) { s with heap := h' }) :
    wpAny (model prog w) A (call (.type "enumerate") [v]) Q E s := by
  refine callType_new F.called_enumerate (by decide) (F.typeCall_enumerate_1 _) (F.newCall_enumerate_1 _) (fun obj => F.args_object_init_2 obj _) F.entry_enumerate_new
    (meets_enumerate_newB1 B) ⟨h1, ?_⟩
  have hz : (s.heap.push o).objs.size = s.heap.objs.size + 1 := Heap.size_push ..
  show _ ∧ _
  rw [hz]
  have he : IsEnum ((s.heap.push o).push { cls := .type "enumerate", data := .fields #[.none, .bool false, .ref s.heap.objs.size, rawInt 0, .none, .none] }) (s.heap.objs.size + 1) s.heap.objs.size 0 .none := by
    have := Heap.get?_push_size (s.heap.push o) (o := { cls := .type "enumerate", data := .fields #[.none, .bool false, .ref s.heap.objs.size, rawInt 0, .none, .none] }) rfl
    rw [hz] at this; exact this
  refine ⟨⟨_, he, rfl⟩, h _ he (Heap.get?_push_of_some _ (Heap.get?_push_size _ B.free)) (by rw [Heap.size_push, hz]) fun b o x => Heap.get?_push_of_some _ (Heap.get?_push_of_some _ x)⟩
end
def YEnum (xs : List V) (i : Nat) (vs : List V) : Prop := ∃ x, xs[i]? = some x ∧ vs = [.int ((i : Nat) : Int), x]
def ItE (K : PySem.W.Frag) (a : Addr) (xs : List V) : It := ItF (fun H => SqT K H a xs) xs.length (YEnum xs)
theorem turn_enumT {P : Program} {w : World} {K : PySem.W.Frag} {elts : List Expr} {kk : Nat} {tpos : Pos} {a e it : Addr} {xs : List V} (hei : e ≠ it) (hea : e ≠ a) (hai : a ≠ it) :
    Turn P w K (.Tuple elts kk tpos) (ItE K a xs) [e, it] e (fun i h => (∃ old, IsEnum h e it (0 + (i : Int)) old) ∧ h.IsTupleIter it a i) := by
  unfold ItE
  refine turn_walksT (ι := Array Value) (fun its A hh => WalksT.enumFrom 0 (Draws.tuple (A := A.in1) (by exact hh) it a hai its) e hei (by simp [hei, hea]) (by simp)) ?_ ?_ ?_ ?_ ?_ ?_ ?_
  · intro X pins σ H s i hK I hs st
    subst hK
    obtain ⟨its, rv, p, _⟩ := I.tuple hs
    refine ⟨its.toArray, ⟨st.1, st.2, p⟩, by rw [rv.length, List.size_toArray], fun vals hy => ?_⟩
    obtain ⟨t, u, hu, rfl⟩ := hy
    have hu' : its[i]? = some u := by simpa using hu
    cases e1 : xs[i]? with
    | none =>
      rw [rv.none_of e1] at hu'
      cases hu'
    | some x =>
      obtain ⟨u', e2, rx⟩ := rv.get e1
      rw [e2] at hu'
      cases hu'
      exact ⟨[.int ((i : Nat) : Int), x], .cons ⟨t, by rw [Int.zero_add]⟩ (.cons rx .nil), (by show 2 ≤ sizeLine; decide), x, e1, rfl⟩
  · intro z i h st
    exact ⟨st.1, st.2.1⟩
  · intro b hb; exact hb
  · simp
  · intro i h st b hb
    obtain ⟨⟨old, he⟩, ⟨o, ho, hc, hd⟩⟩ := st
    have e' : b = e ∨ b = it := by simpa using hb
    rcases e' with z | z
    · rw [z]; exact ⟨_, he, fun v q => nomatch q⟩
    · rw [z]; exact ⟨o, ho, fun v q => by rw [hd] at q; cases q⟩
  · intro i h h' st k
    obtain ⟨⟨old, he⟩, hi⟩ := st
    exact ⟨⟨old, k e (by simp) _ he⟩, hi.at fun o q => k it (by simp) o q⟩
  · intro A i s Q E st q
    obtain ⟨⟨old, he⟩, _⟩ := st
    exact wpAny_pyIter_enum he q
def iEnumT (K : PySem.W.Frag) (ta : TA) : TI := fun σ H R => ta σ H fun vs H1 => ∃ a xs, vs = [.ref a] ∧ SqT K H1 a xs ∧ R (ItE K a xs) H1
theorem pi_enumT {X : Cx} {e : Expr} {ta : TA} {p pos tpos : Pos} {elts : List Expr} {kk : Nat} (hg : Gl X "enumerate") (hm : X.mg "enumerate" = none) (ha : PA X [e] ta) (hs : starEach [e] X.env = [(false, eval e X.env)] := by rfl) :
    PI X (.Tuple elts kk tpos) (.Call (.Name "enumerate" p) [e] [] pos) (iEnumT X.K ta) := by
  refine ⟨fun pins s σ H R I h => ?_⟩
  refine Call_ (ld_blt I hg hm boot_enumerate (PyProof.Rows.callWith_type1 (thn (ha.run pos pins s σ H _ I h) fun us s1 ⟨vs, H1, I1, r1, q1⟩ => ?_) hs rfl))
  obtain ⟨a, xs, ex, hq, q⟩ := q1
  subst ex
  cases r1 with
  | cons r rr =>
    cases rr
    cases r
    obtain ⟨its, rv, p', hz⟩ := I1.tuple hq
    have p2 := p'
    obtain ⟨oa, ha1, _⟩ := p2
    have hlt : a < s1.heap.objs.size := Heap.lt_size ha1
    refine enum_begins1 (begins_tuple a its.toArray) p' fun h' he hit hsz hk => wpAny_pyIter_enum he ?_
    have I2 : Inv X pins σ H1 { s1 with heap := h' } := I1.kept (t' := s1.toks) hk
    refine ⟨s1.heap.objs.size + 1, [s1.heap.objs.size + 1, s1.heap.objs.size], _, _, H1, rfl, I2, turn_enumT (a := a) (xs := xs) (Nat.succ_ne_self _) (Nat.ne_of_gt (Nat.lt_succ_of_lt hlt)) (Nat.ne_of_lt hlt), ⟨⟨.none, he⟩, ⟨_, hit, rfl, rfl⟩⟩, fun b hb => ?_, q⟩
    have e' : b = s1.heap.objs.size + 1 ∨ b = s1.heap.objs.size := by simpa using hb
    have hle : s1.heap.objs.size ≤ b := by
      rcases e' with z | z
      · rw [z]; exact Nat.le_add_right _ _
      · rw [z]; exact Nat.le_refl _
    exact I1.fpOk hle (I1.hok.fresh hle)

/-! ### zip(list, tuple) -/
def YZip (xs ys : List V) (i : Nat) (vs : List V) : Prop := ∃ x y, xs[i]? = some x ∧ ys[i]? = some y ∧ vs = [x, y]
def ItZ (K : PySem.W.Frag) (a b : Addr) (xs ys : List V) : It := ItF (fun H => SqL K H a xs ∧ SqT K H b ys) (min xs.length ys.length) (YZip xs ys)
theorem turn_zipLT {P : Program} {w : World} {K : PySem.W.Frag} {elts : List Expr} {kk : Nat} {tpos : Pos} {a b z TI TO i1 i2 : Addr} {xs ys : List V} (S : ZipSep2 z TI TO i1 i2 [i1, a] [i2, b]) (h1 : a ≠ i1) (h2 : b ≠ i2) :
    Turn P w K (.Tuple elts kk tpos) (ItZ K a b xs ys) [z, TI, TO, i1, i2] z (fun i h => IsZip h z TI TO .none ∧ IsTupOf2 h TI (.ref i1) (.ref i2) ∧ (∃ a1 a2, IsTupOf2 h TO a1 a2) ∧ h.IsListIter i1 a i ∧ h.IsTupleIter i2 b i) := by
  unfold ItZ
  refine turn_walksT (ι := Array Value × Array Value) (fun its A hh => WalksT.zipD2 S (Draws.list (A := A.in1) (by exact hh) i1 a h1 its.1) (Draws.tuple (A := A.in1) (by exact hh) i2 b h2 its.2)) ?_ ?_ ?_ ?_ ?_ ?_ ?_
  · intro X pins σ H s i hK I hs st
    subst hK
    obtain ⟨q1, q2, q3, q4, q5⟩ := st
    obtain ⟨its, rv, p, _⟩ := I.list hs.1
    obtain ⟨its2, rv2, p2, _⟩ := I.tuple hs.2
    refine ⟨(its.toArray, its2.toArray), ⟨q1, q2, q3, ⟨q4, p.isList⟩, q5, p2⟩, by rw [rv.length, rv2.length, List.size_toArray, List.size_toArray], fun vals hy => ?_⟩
    obtain ⟨u, u2, hu, hu2, rfl⟩ := hy
    have hu' : its[i]? = some u := by simpa using hu
    have hu2' : its2[i]? = some u2 := by simpa using hu2
    cases e1 : xs[i]? with
    | none =>
      rw [rv.none_of e1] at hu'
      cases hu'
    | some x =>
      obtain ⟨u', e2, rx⟩ := rv.get e1
      rw [e2] at hu'
      cases hu'
      cases e3 : ys[i]? with
      | none =>
        rw [rv2.none_of e3] at hu2'
        cases hu2'
      | some y =>
        obtain ⟨u2', e4, ry⟩ := rv2.get e3
        rw [e4] at hu2'
        cases hu2'
        exact ⟨[x, y], .cons rx (.cons ry .nil), (by show 2 ≤ sizeLine; decide), x, y, e1, e3, rfl⟩
  · intro z i h st
    exact ⟨st.1, st.2.1, st.2.2.1, st.2.2.2.1.1, st.2.2.2.2.1⟩
  · intro c hc
    have e' : c = z ∨ c = TO ∨ c = i1 ∨ c = i2 := by simpa using hc
    rcases e' with q | q | q | q <;> simp [q]
  · simp
  · intro i h st c hc
    obtain ⟨hz, hTI, ⟨x, y, hTO⟩, ⟨o1, e1, _, d1⟩, ⟨o2, e2, _, d2⟩⟩ := st
    have e' : c = z ∨ c = TI ∨ c = TO ∨ c = i1 ∨ c = i2 := by simpa using hc
    rcases e' with q | q | q | q | q
    · rw [q]; exact ⟨_, hz, fun v q => nomatch q⟩
    · rw [q]; exact ⟨_, hTI, fun v q => nomatch q⟩
    · rw [q]; exact ⟨_, hTO, fun v q => nomatch q⟩
    · rw [q]; exact ⟨o1, e1, fun v q => by rw [d1] at q; cases q⟩
    · rw [q]; exact ⟨o2, e2, fun v q => by rw [d2] at q; cases q⟩
  · intro i h h' st k
    obtain ⟨hz, hTI, ⟨x, y, hTO⟩, q1, q2⟩ := st
    exact ⟨k z (by simp) _ hz, k TI (by simp) _ hTI, ⟨x, y, k TO (by simp) _ hTO⟩, q1.at fun o q => k i1 (by simp) o q, q2.at fun o q => k i2 (by simp) o q⟩
  · intro A i s Q E st q
    exact wpAny_pyIter_zip st.1 q
def iZipLT (K : PySem.W.Frag) (ta : TA) : TI := fun σ H R => ta σ H fun vs H1 => ∃ a b xs ys, vs = [.ref a, .ref b] ∧ SqL K H1 a xs ∧ SqT K H1 b ys ∧ R (ItZ K a b xs ys) H1
theorem pi_zipLT {X : Cx} {e e2 : Expr} {ta : TA} {p pos tpos : Pos} {elts : List Expr} {kk : Nat} (hg : Gl X "zip") (hm : X.mg "zip" = none) (ha : PA X [e, e2] ta)
    (hs : starEach [e, e2] X.env = (false, eval e X.env) :: starEach [e2] X.env := by rfl) (hpl : (backTo pos (starEach [e2] X.env)).any (·.1) = false := by rfl) :
    PI X (.Tuple elts kk tpos) (.Call (.Name "zip" p) [e, e2] [] pos) (iZipLT X.K ta) := by
  refine ⟨fun pins s σ H R I h => ?_⟩
  refine Call_ (ld_blt I hg hm PyProof.Rows.boot_zip (PyProof.Rows.callWith_type1 (thn (ha.run pos pins s σ H _ I h) fun us s1 ⟨vs, H1, I1, r1, q1⟩ => ?_) hs hpl))
  obtain ⟨a, b, xs, ys, ex, hqx, hqy, q⟩ := q1
  subst ex
  cases r1 with
  | cons r rr =>
    cases rr with
    | cons r' rr =>
      cases rr
      cases r
      cases r'
      obtain ⟨its, rv, p1, _⟩ := I1.list hqx
      obtain ⟨its2, rv2, p2, _⟩ := I1.tuple hqy
      have hla : a < s1.heap.objs.size := p1.lt
      have hlb : b < s1.heap.objs.size := by obtain ⟨o, ho, _⟩ := id p2; exact Heap.lt_size ho
      refine zip_begins2 (begins_list a its.toArray) (begins_tuple b its2.toArray) p1.isList p2 fun h' hz hTI hTO g1 g2 hsz hk => wpAny_pyIter_zip hz ?_
      have I2 : Inv X pins σ H1 { s1 with heap := h' } := I1.kept (t' := s1.toks) hk
      refine ⟨s1.heap.objs.size + 4, [s1.heap.objs.size + 4, s1.heap.objs.size + 2, s1.heap.objs.size + 3, s1.heap.objs.size, s1.heap.objs.size + 1], _, _, H1, rfl, I2,
        turn_zipLT (xs := xs) (ys := ys) (zip_sep2 (fp1 := [a]) (fp2 := [b]) (by simpa using hla) (by simpa using hlb)) (Nat.ne_of_lt hla) (Nat.ne_of_lt (Nat.lt_succ_of_lt hlb)), ⟨hz, hTI, ⟨_, _, hTO⟩, ⟨_, g1, rfl, rfl⟩, ⟨_, g2, rfl, rfl⟩⟩, fun c hcm => ?_, q⟩
      have e' : c = s1.heap.objs.size + 4 ∨ c = s1.heap.objs.size + 2 ∨ c = s1.heap.objs.size + 3 ∨ c = s1.heap.objs.size ∨ c = s1.heap.objs.size + 1 := by simpa using hcm
      have hle : s1.heap.objs.size ≤ c := by
        rcases e' with z | z | z | z | z
        · rw [z]; exact Nat.le_add_right _ _
        · rw [z]; exact Nat.le_add_right _ _
        · rw [z]; exact Nat.le_add_right _ _
        · rw [z]; exact Nat.le_refl _
        · rw [z]; exact Nat.le_add_right _ _
      exact I1.fpOk hle (I1.hok.fresh hle)
end K46
/-! A dict whose keys are texts and pairs of ints. -/
namespace K46
open PySem PySem.Spec PyProof.Rows L2

/-- a text, or a pair of ints -/
abbrev MK := Sum Str (Int × Int)
section
variable (P : Program) (w : World)
def mIs (h : Heap) : MK → Value → Prop
  | .inl x, v => ∃ t, v = .str x t
  | .inr p, v => ∃ a, v = .ref a ∧ IsTupleKey (intKind P w) h [p.1, p.2] a
def mHash : MK → Int
  | .inl x => hashStr w x
  | .inr p => tupleKeyHash (intKind P w) [p.1, p.2]
def mEntry (x : MK × Value × Value) : DictEntry := ⟨mHash P w x.1, x.2.1, x.2.2⟩
def MOf (h : Heap) (d : Addr) (xs : List (MK × Value × Value)) : Prop :=
  ∃ o es ep, h.get? d = some o ∧ o.ExactDict ∧ o.data = .dict es ep ∧ es.toList = xs.map (mEntry P w) ∧ (∀ x ∈ xs, mIs P w h x.1 x.2.1) ∧ (xs.map (·.1)).Nodup
end
section
variable {P : Program} {w : World} {A : Around} {E : Value → Shared → Prop} {s : Shared}
theorem mIs.inj {h : Heap} {v : Value} {x y : MK} (a : mIs P w h x v) (b : mIs P w h y v) : x = y := by
  cases x with
  | inl x =>
    obtain ⟨t, rfl⟩ := a
    cases y with
    | inl y => obtain ⟨t', e⟩ := b; injection e with e1 _; rw [e1]
    | inr q => obtain ⟨a', e, _⟩ := b; cases e
  | inr p =>
    obtain ⟨a1, rfl, k1⟩ := a
    cases y with
    | inl y => obtain ⟨t', e⟩ := b; cases e
    | inr q =>
      obtain ⟨a2, e, k2⟩ := b
      cases e
      have := k1.inj k2
      injection this with e1 e2
      injection e2 with e2 _
      exact congrArg Sum.inr (Prod.ext e1 e2)
theorem mIs.keeps {h h' : Heap} {x : MK} {v : Value} {d : Addr} {o : Obj} {es ep} (k : mIs P w h x v) (ho : h.get? d = some o) (hd : o.data = .dict es ep) (hs : Heap.SameBut d h h') : mIs P w h' x v := by
  cases x with
  | inl x => exact k
  | inr p => obtain ⟨a, e, q⟩ := k; exact ⟨a, e, q.keeps ho hd hs⟩
theorem itk_tup {h : Heap} {ks : List Int} {a : Addr} (k : IsTupleKey (intKind P w) h ks a) : ∃ items, h.IsTuple a items := by
  obtain ⟨o, items, n, ho, hc, hd, _⟩ := k
  exact ⟨items, o, ho, hc, n, hd⟩
theorem m_eqBool {x y : MK} {u v : Value} {Q : Bool → Shared → Prop} (hu : A.units < cLine) (hx : mIs P w s.heap x u) (hy : mIs P w s.heap y v) (h : Q (decide (x = y)) s) :
    wpAny (model P w) A (eqBool u v) Q E s := by
  cases x with
  | inl x =>
    obtain ⟨t, rfl⟩ := hx
    cases y with
    | inl y =>
      obtain ⟨t', rfl⟩ := hy
      have e : decide ((Sum.inl x : MK) = Sum.inl y) = (x == y) := by
        by_cases q : x = y
        · subst q; simp
        · rw [decide_eq_false (fun z => q (Sum.inl.inj z))]; exact (beq_eq_false_iff_ne.mpr q).symm
      rw [e] at h
      exact SeqAt.EqAt.str_str x t y t' _ _ _ _ h
    | inr q =>
      obtain ⟨a, rfl, k⟩ := hy
      rw [decide_eq_false (fun z => nomatch z)] at h
      obtain ⟨items, ht⟩ := itk_tup k
      exact SeqAt.EqAt.str_tuple x t ht hu _ _ _ _ h
  | inr p =>
    obtain ⟨a, rfl, k⟩ := hx
    cases y with
    | inl y =>
      obtain ⟨t', rfl⟩ := hy
      rw [decide_eq_false (fun z => nomatch z)] at h
      obtain ⟨items, ht⟩ := itk_tup k
      exact SeqAt.EqAt.tuple_str y t' ht hu _ _ _ _ h
    | inr q =>
      obtain ⟨b, rfl, k2⟩ := hy
      refine wpAny_eqBool_tuple hu k k2 ?_
      have e : decide ([p.1, p.2] = [q.1, q.2]) = decide ((Sum.inr p : MK) = Sum.inr q) := by
        obtain ⟨p1, p2⟩ := p
        obtain ⟨q1, q2⟩ := q
        simp
      rw [e]
      exact h
theorem m_pyHash {x : MK} {v : Value} {Q : Int → Shared → Prop} (hu : A.units < cLine) (hx : mIs P w s.heap x v) (h : ∀ tk, Q (mHash P w x) { s with toks := tk }) :
    wpAny (model P w) A (pyHash v) Q E s := by
  cases x with
  | inl x => obtain ⟨t, rfl⟩ := hx; exact wpAny_pyHash_str (h _)
  | inr p => obtain ⟨a, rfl, k⟩ := hx; exact wpAny_pyHash_tuple hu k (h _)
theorem m_quiet {x : MK} {v : Value} {Q : Bool → Shared → Prop} (hx : mIs P w s.heap x v) (h : Q true s) : wpAny (model P w) A (eqIsQuiet 8 v) Q E s := by
  cases x with
  | inl x => obtain ⟨t, rfl⟩ := hx; rw [eqIsQuiet_byValue 8 rfl]; exact wpAny_pure h
  | inr p => obtain ⟨a, rfl, k⟩ := hx; exact wpAny_eqIsQuiet_tuple k h
theorem m_mayTell {v : Value} {x : MK} {stored : List Value} {Q : Bool → Shared → Prop} (hkey : mIs P w s.heap x v)
    (hst : ∀ u ∈ stored, ∃ k', mIs P w s.heap k' u) (h : Q false s) : wpAny (model P w) A (tableMayTell v stored) Q E s := by
  unfold tableMayTell
  split
  · exact wpAny_pure h
  · refine wpAny_bind (m_quiet hkey ?_)
    simp only [Bool.not_true, Bool.false_eq_true, if_false]
    refine wpAny_bind ?_
    refine wpAny_forIn_list _ (fun rest r s' => s' = s ∧ r = (none, ()) ∧ ∀ u ∈ rest, ∃ k', mIs P w s.heap k' u) _ ?_ ?_ _ _ ⟨rfl, rfl, hst⟩
    · rintro x rest r s' ⟨rfl, rfl, hr⟩
      obtain ⟨k', hb⟩ := hr x List.mem_cons_self
      refine wpAny_bind (m_quiet hb ?_)
      simp only [Bool.not_true, Bool.false_eq_true, if_false]
      exact wpAny_pure ⟨rfl, rfl, fun u hv => hr u (List.mem_cons_of_mem _ hv)⟩
    · rintro r s' ⟨rfl, rfl, _⟩
      exact wpAny_pure h
theorem m_unique {xs : List (MK × Value × Value)} (hn : (xs.map (·.1)).Nodup) {i j : Nat} {k : MK} {p q : Value × Value} (hi : xs[i]? = some (k, p)) (hj : xs[j]? = some (k, q)) : i = j := by
  have hi' : (xs.map (·.1))[i]? = some k := by rw [List.getElem?_map, hi]; rfl
  have hj' : (xs.map (·.1))[j]? = some k := by rw [List.getElem?_map, hj]; rfl
  exact (List.getElem?_inj (List.getElem?_eq_some_iff.mp hi').1 hn).mp (hi'.trans hj'.symm)
/-- where a key stands -/
theorem m_find {d : Addr} {v : Value} {o : Obj} {es ep} {xs : List (MK × Value × Value)} {k : MK} {Q : Option Nat → Shared → Prop} (hu : A.units < cLine) (hkey : mIs P w s.heap k v)
    (ho : s.heap.get? d = some o) (hd : o.data = .dict es ep) (he : es.toList = xs.map (mEntry P w)) (his : ∀ x ∈ xs, mIs P w s.heap x.1 x.2.1) (hn : (xs.map (·.1)).Nodup)
    (hnone : (∀ (j : Nat) (p : Value × Value), xs[j]? ≠ some (k, p)) → Q none s) (hsome : ∀ (j : Nat) (p : Value × Value), xs[j]? = some (k, p) → Q (some j) s) :
    wpAny (model P w) A (dictFind d v (mHash P w k)) Q E s := by
  have hsz : es.size = xs.length := by rw [← Array.length_toList, he, List.length_map]
  have hat : ∀ j : Nat, es[j]? = (xs[j]?).map (mEntry P w) := fun j => by rw [← Array.getElem?_toList, he, List.getElem?_map]
  have haskey : ∀ (j : Nat) (p : Value × Value), xs[j]? = some (k, p) → ((es[j]?.map (·.hash)) == some (mHash P w k)) = true := by
    intro j p hj
    rw [hat j, hj]
    simp [mEntry]
  have hmem : ∀ e ∈ es, ∃ x ∈ xs, e = mEntry P w x := by
    intro e hin
    have : e ∈ xs.map (mEntry P w) := he ▸ Array.mem_toList_iff.mpr hin
    obtain ⟨x, hx, rfl⟩ := List.mem_map.mp this
    exact ⟨x, hx, rfl⟩
  have hany : ¬ (es.any fun e => e.key == v && e.hash != mHash P w k) = true := by
    rw [← Array.any_toList, List.any_eq_true]
    rintro ⟨e, hin, hc⟩
    obtain ⟨x, hx, rfl⟩ := hmem e (Array.mem_toList_iff.mp hin)
    simp only [mEntry, Bool.and_eq_true, bne_iff_ne, ne_eq] at hc
    obtain ⟨hxa, hne⟩ := hc
    have e2 : x.2.1 = v := eq_of_beq hxa
    have := his x hx
    rw [e2] at this
    exact hne (by rw [this.inj hkey])
  have hst : ∀ u ∈ (placesWithHash es.size (fun i => es[i]?.map (·.hash)) (mHash P w k)).filterMap (fun i => es[i]?.map (·.key)), ∃ k', mIs P w s.heap k' u := by
    intro u hv
    obtain ⟨i, _, hi⟩ := List.mem_filterMap.mp hv
    cases hei : es[i]? with
    | none => rw [hei] at hi; cases hi
    | some e =>
      rw [hei] at hi
      obtain rfl : e.key = u := by simpa using hi
      obtain ⟨x, hx, rfl⟩ := hmem e (Array.mem_of_getElem? hei)
      exact ⟨x.1, his x hx⟩
  unfold dictFind
  try with_reducible refine wpAny_holding ?_
  refine wpAny_bind (wpAny_dictEntries ho hd ?_)
  dsimp only
  have walk : wpAny (model P w) A (dictWalkPlain d v (mHash P w k) es (placesWithHash es.size (fun i => es[i]?.map (·.hash)) (mHash P w k))) Q E s := by
    refine wpAny_bind ?_
    refine wpAny_forIn_list _
      (fun rest b s' => s' = s ∧ b = (none, ()) ∧ ∃ i, rest = (List.range' i (es.size - i)).filter (fun i => (es[i]?.map (·.hash)) == some (mHash P w k)) ∧ i ≤ es.size ∧ ∀ j p, j < i → xs[j]? ≠ some (k, p)) _ ?_ ?_ _ _
      ⟨rfl, rfl, 0, by rw [placesWithHash, List.range_eq_range', Nat.sub_zero], Nat.zero_le _, fun _ _ h => absurd h (Nat.not_lt_zero _)⟩
    · rintro x rest b s' ⟨rfl, rfl, i, hr, hi, hno⟩
      obtain ⟨hix, hxn, hpx, hskip, hrest⟩ := filter_range'_cons _ _ _ _ _ hr.symm
      have hlt : x < es.size := by omega
      have hrest' : rest = (List.range' (x + 1) (es.size - (x + 1))).filter (fun i => (es[i]?.map (·.hash)) == some (mHash P w k)) := by rw [hrest]; congr 2; omega
      obtain ⟨⟨k', b, v'⟩, hkv⟩ : ∃ y, xs[x]? = some y := ⟨xs[x]'(by rw [← hsz]; exact hlt), List.getElem?_eq_getElem _⟩
      have hib : mIs P w s'.heap k' b := his _ (List.mem_of_getElem? hkv)
      have hex : es[x]? = some ⟨mHash P w k', b, v'⟩ := by rw [hat x, hkv]; rfl
      have hnext : ¬ k' = k → ∀ j p, j < x + 1 → xs[j]? ≠ some (k, p) := by
        intro hne j p hjx hj
        rcases Nat.lt_or_ge j i with h | h
        · exact hno j p h hj
        · rcases Nat.lt_or_ge j x with h' | h'
          · have := hskip j h h'
            rw [haskey j p hj] at this
            exact absurd this (by decide)
          · have : j = x := by omega
            subst this
            rw [hkv] at hj
            injection hj with hj
            injection hj with hj _
            exact hne hj
      rw [hex]
      dsimp only
      by_cases hh : (mHash P w k' == mHash P w k) = true
      · rw [if_pos hh]
        refine wpAny_bind (wpAny_dictEpoch ho hd (wpAny_bind (m_eqBool (x := k') (y := k) hu hib hkey (wpAny_bind (wpAny_dictEpoch ho hd ?_)))))
        show wpAny _ _ (if (ep != ep) = true then _ else _) _ E _
        rw [if_neg (by simp)]
        by_cases hkk : k' = k
        · rw [decide_eq_true hkk]
          subst hkk
          exact wpAny_bind (wpAny_rule (wpAny_pure (wpAny_pure (hsome x _ hkv))))
        · rw [decide_eq_false hkk]
          exact wpAny_bind (wpAny_rule (wpAny_pure ⟨rfl, rfl, x + 1, hrest', hlt, hnext hkk⟩))
      · rw [if_neg hh]
        refine wpAny_pure ⟨rfl, rfl, x + 1, hrest', hlt, hnext ?_⟩
        intro hkk
        rw [hkk] at hh; simp at hh
    · rintro b s' ⟨rfl, rfl, i, hr, hi, hno⟩
      have hall : ∀ j, i ≤ j → j < es.size → ((es[j]?.map (·.hash)) == some (mHash P w k)) = false := by
        intro j h1 h2
        have := List.filter_eq_nil_iff.mp hr.symm j (List.mem_range'_1.mpr ⟨h1, by omega⟩)
        simpa using this
      refine wpAny_pure (hnone fun j p hj => ?_)
      rcases Nat.lt_or_ge j i with h | h
      · exact hno j p h hj
      · have hjl : j < es.size := by
          rw [hsz]
          rcases Nat.lt_or_ge j xs.length with h' | h'
          · exact h'
          · rw [List.getElem?_eq_none h'] at hj; exact nomatch hj
        have := hall j h hjl
        rw [haskey j p hj] at this
        exact absurd this (by decide)
  cases k with
  | inl x0 =>
    obtain ⟨t, rfl⟩ := id hkey
    dsimp only
    by_cases hstrs : (es.all fun e => isExactStrKey e.key) = true
    · rw [if_pos hstrs]
      unfold foundByValue
      cases hf : es.findIdx? (fun e => e.key.isStr x0) with
      | none =>
        refine wpAny_pure (hnone fun j p hj => ?_)
        have := Array.findIdx?_eq_none_iff.mp hf (mEntry P w (.inl x0, p)) (by
          have : es[j]? = some (mEntry P w (.inl x0, p)) := by rw [hat j, hj]; rfl
          exact Array.mem_of_getElem? this)
        obtain ⟨t', e'⟩ := his _ (List.mem_of_getElem? hj)
        simp only [mEntry] at this
        rw [show p.1 = Value.str x0 t' from e'] at this
        simp [Value.isStr] at this
      | some i =>
        obtain ⟨hlt, hi, _⟩ := Array.findIdx?_eq_some_iff_getElem.mp hf
        obtain ⟨⟨k', b, v'⟩, hkv⟩ : ∃ y, xs[i]? = some y := ⟨xs[i]'(by rw [← hsz]; exact hlt), List.getElem?_eq_getElem _⟩
        have hib : mIs P w s.heap k' b := his _ (List.mem_of_getElem? hkv)
        have hex : es[i]? = some ⟨mHash P w k', b, v'⟩ := by rw [hat i, hkv]; rfl
        have hex2 : es[i] = ⟨mHash P w k', b, v'⟩ := by
          have := Array.getElem?_eq_getElem hlt
          rw [hex] at this
          exact (Option.some.inj this).symm
        rw [hex2] at hi
        simp only at hi
        have hkk : k' = .inl x0 := by
          cases k' with
          | inl y =>
            obtain ⟨t', rfl⟩ := hib
            simp [Value.isStr] at hi
            rw [hi]
          | inr q =>
            obtain ⟨a', rfl, _⟩ := hib
            simp [Value.isStr] at hi
        subst hkk
        simp only [hex]
        refine wpAny_bind (wpAny_dictEpoch ho hd (wpAny_bind (m_eqBool (x := .inl x0) (y := .inl x0) hu hib ⟨t, rfl⟩ (wpAny_bind (wpAny_dictEpoch ho hd ?_)))))
        show wpAny _ _ (if (ep != ep) = true then _ else _) _ E _
        rw [if_neg (by simp), decide_eq_true rfl]
        exact wpAny_bind (wpAny_rule (wpAny_pure (hsome i _ hkv)))
    · rw [if_neg hstrs]
      by_cases hc : ((Value.str x0 t :: (placesWithHash es.size (fun i => es[i]?.map (·.hash)) (mHash P w (.inl x0))).filterMap (fun i => es[i]?.map (·.key))).all carriedByValue) = true
      · rw [if_pos hc]
        exact walk
      · rw [if_neg hc]
        by_cases hone : (((placesWithHash es.size (fun i => es[i]?.map (·.hash)) (mHash P w (Sum.inl x0))).filterMap (fun i => es[i]?.map (·.key))) == [Value.str x0 t]) = true <;>
        (first | rw [if_pos hone] | rw [if_neg hone]) <;> (first | refine wpAny_bind (wpAny_pure ?_) | refine wpAny_bind (m_mayTell hkey hst ?_)) <;> (
          rw [if_neg (by simp)]
          refine wpAny_bind ?_
          refine wpAny_forIn_list _
            (fun rest b s' => s' = s ∧ ∃ i hit, b = (none, hit) ∧ rest = (List.range' i (es.size - i)).filter (fun i => (es[i]?.map (·.hash)) == some (mHash P w (Sum.inl x0))) ∧ i ≤ es.size ∧
              ((hit = none ∧ ∀ j p, j < i → xs[j]? ≠ some ((Sum.inl x0), p)) ∨ ∃ j p, hit = some j ∧ j < i ∧ xs[j]? = some ((Sum.inl x0), p))) _ ?_ ?_ _ _
            ⟨rfl, 0, none, rfl, by rw [placesWithHash, List.range_eq_range', Nat.sub_zero], Nat.zero_le _, .inl ⟨rfl, fun _ _ h => absurd h (Nat.not_lt_zero _)⟩⟩
          · rintro x rest b s' ⟨rfl, i, hit, rfl, hr, hi, hH⟩
            obtain ⟨hix, hxn, hpx, hskip, hrest⟩ := filter_range'_cons _ _ _ _ _ hr.symm
            have hlt : x < es.size := by omega
            have hrest' : rest = (List.range' (x + 1) (es.size - (x + 1))).filter (fun i => (es[i]?.map (·.hash)) == some (mHash P w (Sum.inl x0))) := by rw [hrest]; congr 2; omega
            obtain ⟨⟨k', b, v'⟩, hkv⟩ : ∃ y, xs[x]? = some y := ⟨xs[x]'(by rw [← hsz]; exact hlt), List.getElem?_eq_getElem _⟩
            have hib : mIs P w s'.heap k' b := his _ (List.mem_of_getElem? hkv)
            have hex : es[x]? = some ⟨mHash P w k', b, v'⟩ := by rw [hat x, hkv]; rfl
            have hHx : (hit = none ∧ ∀ j p, j < x → xs[j]? ≠ some ((Sum.inl x0), p)) ∨ ∃ j p, hit = some j ∧ j < x ∧ xs[j]? = some ((Sum.inl x0), p) := by
              rcases hH with ⟨h0, hno⟩ | ⟨j, p, h1, hji, hj⟩
              · refine .inl ⟨h0, fun j p hjx hj => ?_⟩
                rcases Nat.lt_or_ge j i with h | h
                · exact hno j p h hj
                · have := hskip j h hjx
                  rw [haskey j p hj] at this
                  exact absurd this (by decide)
              · exact .inr ⟨j, p, h1, by omega, hj⟩
            have hstay : ¬ k' = (Sum.inl x0) → ((hit = none ∧ ∀ j p, j < x + 1 → xs[j]? ≠ some ((Sum.inl x0), p)) ∨ ∃ j p, hit = some j ∧ j < x + 1 ∧ xs[j]? = some ((Sum.inl x0), p)) := by
              intro hne
              rcases hHx with ⟨h0, hno⟩ | ⟨j, p, h1, hjx, hj⟩
              · refine .inl ⟨h0, fun j p hjx hj => ?_⟩
                rcases Nat.lt_or_ge j x with h | h
                · exact hno j p h hj
                · have hjx' : j = x := by omega
                  subst hjx'
                  rw [hkv] at hj
                  injection hj with hj
                  injection hj with hj
                  exact hne hj
              · exact .inr ⟨j, p, h1, by omega, hj⟩
            rw [hex]
            dsimp only
            by_cases hh : (mHash P w k' == mHash P w (Sum.inl x0)) = true
            · rw [if_pos hh]
              refine wpAny_bind (wpAny_dictEpoch ho hd (wpAny_bind (m_eqBool (x := k') (y := (Sum.inl x0)) hu hib hkey (wpAny_bind (wpAny_dictEpoch ho hd ?_)))))
              show wpAny _ _ (if (ep != ep) = true then _ else _) _ E _
              rw [if_neg (by simp)]
              by_cases hkk : k' = (Sum.inl x0)
              · rw [decide_eq_true hkk]
                subst hkk
                rcases hHx with ⟨rfl, _⟩ | ⟨j, p, _, hjx, hj⟩
                · first | rw [if_pos rfl] | skip
                  simp only [Option.isSome_none, Bool.false_eq_true, if_false]
                  first | refine wpAny_bind (wpAny_pure ?_) | skip
                  refine wpAny_bind (wpAny_rule ?_)
                  split
                  · exact wpAny_pure (wpAny_pure (hsome x _ hkv))
                  · exact wpAny_pure ⟨rfl, x + 1, some x, rfl, hrest', hlt, .inr ⟨x, _, rfl, Nat.lt_succ_self x, hkv⟩⟩
                · exact absurd (m_unique hn hj hkv) (by omega)
              · rw [decide_eq_false hkk]
                simp only [Bool.false_eq_true, if_false]
                refine wpAny_bind (wpAny_rule ?_)
                first | rw [if_neg (by simp)] | skip
                first
                  | exact wpAny_pure ⟨rfl, x + 1, hit, rfl, hrest', hlt, hstay hkk⟩
                  | exact wpAny_bind (wpAny_pure (wpAny_pure ⟨rfl, x + 1, hit, rfl, hrest', hlt, hstay hkk⟩))
            · rw [if_neg hh]
              refine wpAny_pure ⟨rfl, x + 1, hit, rfl, hrest', hlt, hstay ?_⟩
              intro hkk
              rw [hkk] at hh; simp at hh
          · rintro b s' ⟨rfl, i, hit, rfl, hr, hi, hH⟩
            have hall : ∀ j, i ≤ j → j < es.size → ((es[j]?.map (·.hash)) == some (mHash P w (Sum.inl x0))) = false := by
              intro j h1 h2
              have := List.filter_eq_nil_iff.mp hr.symm j (List.mem_range'_1.mpr ⟨h1, by omega⟩)
              simpa using this
            rcases hH with ⟨rfl, hno⟩ | ⟨j, p, rfl, _, hj⟩
            · refine wpAny_pure (hnone fun j p hj => ?_)
              rcases Nat.lt_or_ge j i with h | h
              · exact hno j p h hj
              · have hjl : j < es.size := by
                  rw [hsz]
                  rcases Nat.lt_or_ge j xs.length with h' | h'
                  · exact h'
                  · rw [List.getElem?_eq_none h'] at hj; exact nomatch hj
                have := hall j h hjl
                rw [haskey j p hj] at this
                exact absurd this (by decide)
            · exact wpAny_pure (hsome j p hj))
  | inr q =>
    obtain ⟨a, rfl, kk⟩ := id hkey
    dsimp only
    rw [if_neg (show ¬ ((Value.ref a :: (placesWithHash es.size (fun i => es[i]?.map (·.hash)) (mHash P w (.inr q))).filterMap (fun i => es[i]?.map (·.key))).all carriedByValue) = true by simp [carriedByValue])]
    rw [if_neg hany]
    by_cases hone : (((placesWithHash es.size (fun i => es[i]?.map (·.hash)) (mHash P w (Sum.inr q))).filterMap (fun i => es[i]?.map (·.key))) == [Value.ref a]) = true <;>
    (first | rw [if_pos hone] | rw [if_neg hone]) <;> (first | refine wpAny_bind (wpAny_pure ?_) | refine wpAny_bind (m_mayTell hkey hst ?_)) <;> (
      rw [if_neg (by simp)]
      refine wpAny_bind ?_
      refine wpAny_forIn_list _
        (fun rest b s' => s' = s ∧ ∃ i hit, b = (none, hit) ∧ rest = (List.range' i (es.size - i)).filter (fun i => (es[i]?.map (·.hash)) == some (mHash P w (Sum.inr q))) ∧ i ≤ es.size ∧
          ((hit = none ∧ ∀ j p, j < i → xs[j]? ≠ some ((Sum.inr q), p)) ∨ ∃ j p, hit = some j ∧ j < i ∧ xs[j]? = some ((Sum.inr q), p))) _ ?_ ?_ _ _
        ⟨rfl, 0, none, rfl, by rw [placesWithHash, List.range_eq_range', Nat.sub_zero], Nat.zero_le _, .inl ⟨rfl, fun _ _ h => absurd h (Nat.not_lt_zero _)⟩⟩
      · rintro x rest b s' ⟨rfl, i, hit, rfl, hr, hi, hH⟩
        obtain ⟨hix, hxn, hpx, hskip, hrest⟩ := filter_range'_cons _ _ _ _ _ hr.symm
        have hlt : x < es.size := by omega
        have hrest' : rest = (List.range' (x + 1) (es.size - (x + 1))).filter (fun i => (es[i]?.map (·.hash)) == some (mHash P w (Sum.inr q))) := by rw [hrest]; congr 2; omega
        obtain ⟨⟨k', b, v'⟩, hkv⟩ : ∃ y, xs[x]? = some y := ⟨xs[x]'(by rw [← hsz]; exact hlt), List.getElem?_eq_getElem _⟩
        have hib : mIs P w s'.heap k' b := his _ (List.mem_of_getElem? hkv)
        have hex : es[x]? = some ⟨mHash P w k', b, v'⟩ := by rw [hat x, hkv]; rfl
        have hHx : (hit = none ∧ ∀ j p, j < x → xs[j]? ≠ some ((Sum.inr q), p)) ∨ ∃ j p, hit = some j ∧ j < x ∧ xs[j]? = some ((Sum.inr q), p) := by
          rcases hH with ⟨h0, hno⟩ | ⟨j, p, h1, hji, hj⟩
          · refine .inl ⟨h0, fun j p hjx hj => ?_⟩
            rcases Nat.lt_or_ge j i with h | h
            · exact hno j p h hj
            · have := hskip j h hjx
              rw [haskey j p hj] at this
              exact absurd this (by decide)
          · exact .inr ⟨j, p, h1, by omega, hj⟩
        have hstay : ¬ k' = (Sum.inr q) → ((hit = none ∧ ∀ j p, j < x + 1 → xs[j]? ≠ some ((Sum.inr q), p)) ∨ ∃ j p, hit = some j ∧ j < x + 1 ∧ xs[j]? = some ((Sum.inr q), p)) := by
          intro hne
          rcases hHx with ⟨h0, hno⟩ | ⟨j, p, h1, hjx, hj⟩
          · refine .inl ⟨h0, fun j p hjx hj => ?_⟩
            rcases Nat.lt_or_ge j x with h | h
            · exact hno j p h hj
            · have hjx' : j = x := by omega
              subst hjx'
              rw [hkv] at hj
              injection hj with hj
              injection hj with hj
              exact hne hj
          · exact .inr ⟨j, p, h1, by omega, hj⟩
        rw [hex]
        dsimp only
        by_cases hh : (mHash P w k' == mHash P w (Sum.inr q)) = true
        · rw [if_pos hh]
          refine wpAny_bind (wpAny_dictEpoch ho hd (wpAny_bind (m_eqBool (x := k') (y := (Sum.inr q)) hu hib hkey (wpAny_bind (wpAny_dictEpoch ho hd ?_)))))
          show wpAny _ _ (if (ep != ep) = true then _ else _) _ E _
          rw [if_neg (by simp)]
          by_cases hkk : k' = (Sum.inr q)
          · rw [decide_eq_true hkk]
            subst hkk
            rcases hHx with ⟨rfl, _⟩ | ⟨j, p, _, hjx, hj⟩
            · first | rw [if_pos rfl] | skip
              simp only [Option.isSome_none, Bool.false_eq_true, if_false]
              first | refine wpAny_bind (wpAny_pure ?_) | skip
              refine wpAny_bind (wpAny_rule ?_)
              split
              · exact wpAny_pure (wpAny_pure (hsome x _ hkv))
              · exact wpAny_pure ⟨rfl, x + 1, some x, rfl, hrest', hlt, .inr ⟨x, _, rfl, Nat.lt_succ_self x, hkv⟩⟩
            · exact absurd (m_unique hn hj hkv) (by omega)
          · rw [decide_eq_false hkk]
            simp only [Bool.false_eq_true, if_false]
            refine wpAny_bind (wpAny_rule ?_)
            first | rw [if_neg (by simp)] | skip
            first
              | exact wpAny_pure ⟨rfl, x + 1, hit, rfl, hrest', hlt, hstay hkk⟩
              | exact wpAny_bind (wpAny_pure (wpAny_pure ⟨rfl, x + 1, hit, rfl, hrest', hlt, hstay hkk⟩))
        · rw [if_neg hh]
          refine wpAny_pure ⟨rfl, x + 1, hit, rfl, hrest', hlt, hstay ?_⟩
          intro hkk
          rw [hkk] at hh; simp at hh
      · rintro b s' ⟨rfl, i, hit, rfl, hr, hi, hH⟩
        have hall : ∀ j, i ≤ j → j < es.size → ((es[j]?.map (·.hash)) == some (mHash P w (Sum.inr q))) = false := by
          intro j h1 h2
          have := List.filter_eq_nil_iff.mp hr.symm j (List.mem_range'_1.mpr ⟨h1, by omega⟩)
          simpa using this
        rcases hH with ⟨rfl, hno⟩ | ⟨j, p, rfl, _, hj⟩
        · refine wpAny_pure (hnone fun j p hj => ?_)
          rcases Nat.lt_or_ge j i with h | h
          · exact hno j p h hj
          · have hjl : j < es.size := by
              rw [hsz]
              rcases Nat.lt_or_ge j xs.length with h' | h'
              · exact h'
              · rw [List.getElem?_eq_none h'] at hj; exact nomatch hj
            have := hall j h hjl
            rw [haskey j p hj] at this
            exact absurd this (by decide)
        · exact wpAny_pure (hsome j p hj))

/-! ### get, in, set -/
def mGet (xs : List (MK × Value × Value)) (k : MK) : Option (Value × Value) := (xs.find? fun x => decide (x.1 = k)).map (·.2)
theorem mGet_of {xs : List (MK × Value × Value)} (hn : (xs.map (·.1)).Nodup) {i : Nat} {k : MK} {p : Value × Value} (hx : xs[i]? = some (k, p)) : mGet xs k = some p := by
  induction xs generalizing i with
  | nil => simp at hx
  | cons x rest ih =>
    rw [List.map_cons, List.nodup_cons] at hn
    cases i with
    | zero =>
      simp only [List.getElem?_cons_zero, Option.some.injEq] at hx
      subst hx; simp [mGet]
    | succ j =>
      simp only [List.getElem?_cons_succ] at hx
      have hmem : k ∈ rest.map (·.1) := List.mem_map.mpr ⟨(k, p), List.mem_of_getElem? hx, rfl⟩
      have hne : ¬ x.1 = k := fun e => hn.1 (e ▸ hmem)
      have := ih hn.2 hx
      simpa [mGet, List.find?_cons, hne] using this
theorem mGet_none {xs : List (MK × Value × Value)} {k : MK} (h : ∀ (j : Nat) (p : Value × Value), xs[j]? ≠ some (k, p)) : mGet xs k = none := by
  have : (xs.find? fun x => decide (x.1 = k)) = none := by
    rw [List.find?_eq_none]
    intro x hx hk
    obtain ⟨j, hj⟩ := List.mem_iff_getElem?.mp hx
    have hk' : x.1 = k := of_decide_eq_true hk
    exact h j x.2 (by rw [hj, ← hk'])
  simp [mGet, this]
theorem MOf.typeIs {d : Addr} {xs : List (MK × Value × Value)} (hm : MOf P w s.heap d xs) : s.TypeIs (.ref d) "dict" :=
  let ⟨o, _, _, ho, hc, _⟩ := hm; ⟨o, ho, hc.1⟩
theorem m_dictGet {d : Addr} {v : Value} {xs : List (MK × Value × Value)} {k : MK} {Q : Option Value → Shared → Prop} (hu : A.units < cLine) (hkey : mIs P w s.heap k v) (hm : MOf P w s.heap d xs)
    (h : ∀ tk, Q ((mGet xs k).map (·.2)) { s with toks := tk }) : wpAny (model P w) A (dictGet d v) Q E s := by
  obtain ⟨o, es, ep, ho, _, hd, he, his, hn⟩ := hm
  unfold dictGet
  try with_reducible refine wpAny_holding ?_
  refine wpAny_bind (m_pyHash hu hkey fun tk => wpAny_bind (m_find (s := { s with toks := tk }) hu hkey ho hd he his hn ?_ ?_))
  · intro hno
    have := h tk
    rw [mGet_none hno] at this
    exact wpAny_pure this
  · intro j p hj
    have := h tk
    rw [mGet_of hn hj] at this
    refine wpAny_bind (wpAny_dictEntries (s := { s with toks := tk }) ho hd ?_)
    have hat : es[j]? = some (mEntry P w (k, p)) := by rw [← Array.getElem?_toList, he, List.getElem?_map, hj]; rfl
    rw [hat]
    exact wpAny_pure this
theorem m_in {d : Addr} {v : Value} {xs : List (MK × Value × Value)} {k : MK} {Q : Value → Shared → Prop} (hu : A.units + 1 < cLine) (hkey : mIs P w s.heap k v) (hd : (d == sysModules) = false) (hm : MOf P w s.heap d xs)
    (h : ∀ tk, Q (.bool (mGet xs k).isSome) { s with toks := tk }) : wpAny (model P w) A (compareOp .In v (.ref d)) Q E s := by
  show wpAny _ _ (do return .bool (← contains (.ref d) v)) Q E s
  refine wpAny_bind ?_
  unfold contains
  try with_reducible refine wpAny_holding ?_
  refine wpAny_bind (wpAny_specialOf hm.typeIs slot_dict_contains.lookup ?_)
  show wpAny _ _ (if (some (Value.builtin "dict.__contains__") == some Value.none) = true then _ else _) _ E s
  rw [if_neg (by rw [beq_builtin_none]; exact Bool.false_ne_true)]
  refine wpAny_bind (wpAny_callSpecialUnlessNone?_slot (name := Str.ofString "__contains__") hm.typeIs slot_dict_contains
    (wpAny_call_entry slot_dict_contains hm.typeIs entry_dict_contains ?_ (args_dict_contains _ _)))
  show wpAny _ _ (dictGet d v >>= _) _ _ s
  refine wpAny_bind (m_dictGet hu hkey hm fun tk => ?_)
  have := h tk
  cases hf : mGet xs k with
  | some p =>
    rw [hf] at this
    show wpAny _ _ (ret (.bool true)) _ _ _
    exact wpAny_pure ⟨_, rfl, wpAny_truthy_bool (wpAny_pure this)⟩
  | none =>
    rw [hf] at this
    show wpAny _ _ (Builtin.Dict.pendingKey? d v >>= _) _ _ _
    exact wpAny_bind (wpAny_pendingKey_other hd (wpAny_pure ⟨_, rfl, wpAny_truthy_bool (wpAny_pure this)⟩))
theorem m_notIn {d : Addr} {v : Value} {xs : List (MK × Value × Value)} {k : MK} {Q : Value → Shared → Prop} (hu : A.units + 1 < cLine) (hkey : mIs P w s.heap k v) (hd : (d == sysModules) = false) (hm : MOf P w s.heap d xs)
    (h : ∀ tk, Q (.bool (!(mGet xs k).isSome)) { s with toks := tk }) : wpAny (model P w) A (compareOp .NotIn v (.ref d)) Q E s := by
  show wpAny _ _ (do return .bool (!(← contains (.ref d) v))) Q E s
  refine wpAny_bind ?_
  unfold contains
  try with_reducible refine wpAny_holding ?_
  refine wpAny_bind (wpAny_specialOf hm.typeIs slot_dict_contains.lookup ?_)
  show wpAny _ _ (if (some (Value.builtin "dict.__contains__") == some Value.none) = true then _ else _) _ E s
  rw [if_neg (by rw [beq_builtin_none]; exact Bool.false_ne_true)]
  refine wpAny_bind (wpAny_callSpecialUnlessNone?_slot (name := Str.ofString "__contains__") hm.typeIs slot_dict_contains
    (wpAny_call_entry slot_dict_contains hm.typeIs entry_dict_contains ?_ (args_dict_contains _ _)))
  show wpAny _ _ (dictGet d v >>= _) _ _ s
  refine wpAny_bind (m_dictGet hu hkey hm fun tk => ?_)
  have := h tk
  cases hf : mGet xs k with
  | some p =>
    rw [hf] at this
    show wpAny _ _ (ret (.bool true)) _ _ _
    exact wpAny_pure ⟨_, rfl, wpAny_truthy_bool (wpAny_pure this)⟩
  | none =>
    rw [hf] at this
    show wpAny _ _ (Builtin.Dict.pendingKey? d v >>= _) _ _ _
    exact wpAny_bind (wpAny_pendingKey_other hd (wpAny_pure ⟨_, rfl, wpAny_truthy_bool (wpAny_pure this)⟩))
theorem m_getItem {d : Addr} {v : Value} {xs : List (MK × Value × Value)} {k : MK} {p : Value × Value} {Q : Value → Shared → Prop} (hu : A.units + 1 < cLine) (hkey : mIs P w s.heap k v) (hm : MOf P w s.heap d xs) (hp : mGet xs k = some p)
    (h : ∀ tk, Q p.2 { s with toks := tk }) : wpAny (model P w) A (getItem (.ref d) v) Q E s := by
  unfold getItem
  try with_reducible refine wpAny_holding ?_
  refine wpAny_bind (wpAny_sequenceKey hm.typeIs (by decide) ?_)
  refine wpAny_bind (wpAny_callSpecial?_slot (name := Str.ofString "__getitem__") hm.typeIs slot_dict_getitem
    (wpAny_call_entry slot_dict_getitem hm.typeIs entry_dict_getitem ?_ (args_dict_getitem _ _)))
  show wpAny _ _ (dictGet d v >>= _) _ _ s
  refine wpAny_bind (m_dictGet hu hkey hm fun tk => ?_)
  rw [hp]
  exact wpAny_pure ⟨p.2, rfl, wpAny_pure (h tk)⟩
theorem m_setItem {d : Addr} {v val : Value} {xs : List (MK × Value × Value)} {k : MK} {Q : Unit → Shared → Prop} (hu : A.units + 1 < cLine) (hkey : mIs P w s.heap k v) (hm : MOf P w s.heap d xs) (hno : mGet xs k = none)
    (hQ : ∀ h' tk, MOf P w h' d (xs ++ [(k, v, val)]) → Heap.SameBut d s.heap h' → Q () { s with heap := h', toks := tk }) (hsz : xs.length ≤ sizeLine) :
    wpAny (model P w) A (setItem (.ref d) v val) Q E s := by
  unfold setItem
  try with_reducible refine wpAny_holding ?_
  refine wpAny_bind (wpAny_sequenceKey hm.typeIs (by decide) ?_)
  refine wpAny_bind (wpAny_callSpecial?_slot (name := Str.ofString "__setitem__") hm.typeIs slot_dict_setitem
    (wpAny_call_entry slot_dict_setitem hm.typeIs entry_dict_setitem ?_ (args_dict_setitem _ _ _)))
  show wpAny _ _ (Builtin.Dict.notOrdered "__setitem__" ⟨[.ref d, v, val], []⟩ >>= _) _ _ s
  refine wpAny_bind (wpAny_notOrdered_dict hm.typeIs ?_)
  show wpAny _ _ (dictSet d v val >>= _) _ _ s
  refine wpAny_bind ?_
  obtain ⟨o, es, ep, ho, hc, hd, he, his, hn⟩ := hm
  unfold dictSet
  try with_reducible refine wpAny_holding ?_
  refine wpAny_bind (m_pyHash (by exact hu) hkey fun tk => ?_)
  unfold dictSetHashed
  try with_reducible refine wpAny_holding ?_
  have hes : es.size = xs.length := by rw [← Array.length_toList, he, List.length_map]
  refine wpAny_bind (m_find (s := { s with toks := tk }) (by exact hu) hkey ho hd he his hn ?_ ?_)
  · intro hnone
    have hnot : k ∉ xs.map (·.1) := by
      intro hm
      obtain ⟨x, hx, rfl⟩ := List.mem_map.mp hm
      obtain ⟨j, hj⟩ := List.mem_iff_getElem?.mp hx
      exact hnone j x.2 hj
    refine wpAny_bind (wpAny_rule (wpAny_updateDictKeys (hz := by omega) (s := { s with toks := tk }) ho hd (wpAny_pure ⟨.none, rfl, wpAny_pure (hQ _ _ ⟨_, _, ep + 1, Heap.get?_update_self _ ho (Obj.isFreed_of_dict (Obj.data_mapDictKeys hd _)),
      hc.mapDictKeys _, Obj.data_mapDictKeys hd _, ?_, ?_, ?_⟩ (Heap.SameBut.update ..))⟩)))
    · simp [he, mEntry]
    · intro x hx
      rcases List.mem_append.mp hx with hx | hx
      · exact (his x hx).keeps ho hd (Heap.SameBut.update ..)
      · simp only [List.mem_singleton] at hx
        subst hx
        exact hkey.keeps ho hd (Heap.SameBut.update ..)
    · rw [List.map_append, List.nodup_append]
      refine ⟨hn, by simp, ?_⟩
      intro x hx y hy
      simp only [List.map_cons, List.map_nil, List.mem_singleton] at hy
      subst hy
      exact fun e => hnot (e ▸ hx)
  · intro j p hj
    rw [mGet_of hn hj] at hno
    cases hno
end
end K46
/-! The dict of texts and pairs, over the layer; dict(a written dict). -/
namespace K46
open PySem PySem.Spec PyProof.Rows L2

abbrev MX := List (MK × V × V)
def MRel : MX → List (MK × Value × Value) → Prop := Paired fun a b => a.1 = b.1 ∧ RelV a.2.1 b.2.1 ∧ RelV a.2.2 b.2.2
/-- what is true of the dict's own object -/
def mPhi (P : Program) (w : World) (d : Addr) (xs : MX) (h : Heap) : Prop :=
  ∃ ys, MRel xs ys ∧ ∃ o es ep, h.get? d = some o ∧ o.ExactDict ∧ o.data = .dict es ep ∧ es.toList = ys.map (mEntry P w)
/-- the key's own value: a text, or a tracked pair -/
def KeyAt (H : Hp) : MK → V → Prop
  | .inl x, v => v = .str x
  | .inr p, v => ∃ a, v = .ref a ∧ H a = some (.tup [.int p.1, .int p.2])
structure MD (P : Program) (w : World) (H : Hp) (d : Addr) (xs : MX) : Prop where
  at_ : H d = some (.ext (mPhi P w d xs))
  keys : ∀ x ∈ xs, KeyAt H x.1 x.2.1
  nd : (xs.map (·.1)).Nodup
  le : xs.length ≤ sizeLine
  low : (d == sysModules) = false
def mval (xs : MX) (k : MK) : Option V := (xs.find? fun x => decide (x.1 = k)).map (·.2.2)
theorem KeyAt.mono {H H' : Hp} {k : MK} {v : V} (h : KeyAt H k v) (t : ∀ a xs, H a = some (.tup xs) → H' a = some (.tup xs)) : KeyAt H' k v := by
  cases k with
  | inl x => exact h
  | inr p => obtain ⟨a, e, q⟩ := h; exact ⟨a, e, t _ _ q⟩
theorem MD.mono {P : Program} {w : World} {H H' : Hp} {d : Addr} {xs : MX} (m : MD P w H d xs) (e : H' d = H d) (t : ∀ a xs, H a = some (.tup xs) → H' a = some (.tup xs)) : MD P w H' d xs :=
  ⟨e.trans m.at_, fun x hx => (m.keys x hx).mono t, m.nd, m.le, m.low⟩
theorem MRel.length {xs : MX} {ys : List (MK × Value × Value)} (r : MRel xs ys) : xs.length = ys.length := Paired.length r
theorem MRel.keys : ∀ {xs : MX} {ys : List (MK × Value × Value)}, MRel xs ys → xs.map (·.1) = ys.map (·.1)
  | _, _, .nil => rfl
  | _, _, .cons r t => by rw [List.map_cons, List.map_cons, r.1, MRel.keys t]
theorem MRel.get {k : MK} : ∀ {xs : MX} {ys : List (MK × Value × Value)}, MRel xs ys → (∀ v, mval xs k = some v → ∃ p, mGet ys k = some p ∧ RelV v p.2) ∧ (mval xs k = none → mGet ys k = none)
  | _, _, .nil => ⟨(fun _ h => nomatch h), fun _ => rfl⟩
  | x :: xs, y :: ys, .cons r t => by
    obtain ⟨h1, h2⟩ := MRel.get (k := k) t
    by_cases e : x.1 = k
    · have e2 : y.1 = k := r.1 ▸ e
      refine ⟨fun v h => ⟨y.2, by simp [mGet, e2], ?_⟩, fun h => ?_⟩
      · simp [mval, e] at h
        rw [← h]
        exact r.2.2
      · simp [mval, e] at h
    · have e2 : ¬ y.1 = k := r.1 ▸ e
      have q1 : mval (x :: xs) k = mval xs k := by simp [mval, e]
      have q2 : mGet (y :: ys) k = mGet ys k := by simp [mGet, e2]
      rw [q1, q2]
      exact ⟨h1, h2⟩
section
variable {X : Cx} {pins : List (Addr × Obj)} {σ : L2.St} {H : Hp} {s : Shared}
theorem int_items {P : Program} {w : World} (i j : Int) {us : List Value} (r : Vals [.int i, .int j] us) : PySem.ItemsAre (intKind P w) [i, j] us := by
  cases r with
  | cons r1 r =>
    cases r with
    | cons r2 r =>
      cases r
      obtain ⟨t1, rfl⟩ := r1
      obtain ⟨t2, rfl⟩ := r2
      exact .cons (PySem.intKind_is _ _ i t1) (.cons (PySem.intKind_is _ _ j t2) .nil)
theorem KeyAt.is (I : Inv X pins σ H s) {k : MK} {v : V} {u : Value} (h : KeyAt H k v) (r : RelV v u) : mIs X.prog X.w s.heap k u := by
  cases k with
  | inl x =>
    subst h
    obtain ⟨t, rfl⟩ := r
    exact ⟨t, rfl⟩
  | inr p =>
    obtain ⟨a, rfl, e⟩ := h
    cases r
    obtain ⟨_, its, rv, ob, ho, hc, n, hd⟩ := I.hok a _ e
    exact ⟨a, rfl, ob, its.toArray, n, ho, hc, hd, by simpa using int_items p.1 p.2 rv⟩
theorem MRel.is (I : Inv X pins σ H s) : ∀ {xs : MX} {ys : List (MK × Value × Value)}, MRel xs ys → (∀ x ∈ xs, KeyAt H x.1 x.2.1) → ∀ y ∈ ys, mIs X.prog X.w s.heap y.1 y.2.1
  | _, _, .nil, _ => fun _ h => nomatch h
  | x :: xs, y :: ys, .cons r t, k => by
    intro z hz
    rcases List.mem_cons.mp hz with rfl | hz
    · rw [← r.1]
      exact (k x List.mem_cons_self).is I r.2.1
    · exact MRel.is I t (fun q hq => k q (List.mem_cons_of_mem _ hq)) z hz
theorem MD.raw (m : MD X.prog X.w H d xs) (I : Inv X pins σ H s) : ∃ ys, MRel xs ys ∧ MOf X.prog X.w s.heap d ys := by
  obtain ⟨ys, r, o, es, ep, ho, hc, hd, he⟩ := (I.hok d _ m.at_).1
  exact ⟨ys, r, o, es, ep, ho, hc, hd, he, r.is I m.keys, r.keys ▸ m.nd⟩
def rMIn (P : Program) (w : World) (neg : Bool) : R2 := fun x y H Q => ∃ d k xs, y = .ref d ∧ KeyAt H k x ∧ MD P w H d xs ∧ Q (.bl (if neg then !(mval xs k).isSome else (mval xs k).isSome)) H
theorem mval_isSome {xs : MX} {ys : List (MK × Value × Value)} (r : MRel xs ys) (k : MK) : (mGet ys k).isSome = (mval xs k).isSome := by
  obtain ⟨h1, h2⟩ := r.get (k := k)
  cases e : mval xs k with
  | none => rw [h2 e]; rfl
  | some v => obtain ⟨p, q, _⟩ := h1 v e; rw [q]; rfl
theorem op_mnotIn (hu : X.A.units + 1 < cLine) : OpR X (compareOp .NotIn) (rMIn X.prog X.w true) := by
  intro pins s σ H x y v u Q I rx ry h
  obtain ⟨d, k, xs, rfl, hk, m, q⟩ := h
  cases ry
  obtain ⟨ys, r, hm⟩ := m.raw I
  refine m_notIn hu (hk.is I rx) m.low hm fun tk => ?_
  rw [mval_isSome r k]
  exact ⟨.bl _, H, I.tok tk, rfl, q⟩
def tMGet (P : Program) (w : World) (td ty : TE) : TE := fun σ H Q => td σ H fun x H1 => ty σ H1 fun y H2 => ∃ d k xs v, x = .ref d ∧ KeyAt H2 k y ∧ MD P w H2 d xs ∧ mval xs k = some v ∧ Q v H2
theorem pe_mget {o i : Expr} {pos : Pos} {td ty : TE} (hu : X.A.units + 1 < cLine) (ho : PE X o td) (hi : PE X i ty) (hs : NoSl i) : PE X (.Subscript o i pos) (tMGet X.prog X.w td ty) := by
  refine ⟨fun pins s σ H Q I h => ?_⟩
  refine subD_of PySem.F.slot_dict_getitem.lookup hs (thn (ho.run pins s σ H _ I h) fun u s1 ⟨x, H1, I1, rx, q1⟩ => thn (hi.run pins s1 σ H1 _ I1 q1) fun iv s2 ⟨y, H2, I2, ry, d, k, xs, v, ex, hk, m, e, q2⟩ => ?_)
  subst ex
  obtain rfl : u = Value.ref d := rx
  obtain ⟨ys, r, hm⟩ := m.raw I2
  obtain ⟨p, ep, rp⟩ := (r.get (k := k)).1 v e
  exact ⟨hm.typeIs, m_getItem hu (hk.is I2 ry) hm ep fun tk => ⟨v, H2, I2.tok tk, rp, q2⟩⟩
def mPut (xs : MX) (k : MK) (key v : V) : MX := xs ++ [(k, key, v)]
def sMPut (P : Program) (w : World) (td ty tv : TE) : TS := fun D σ H => tv σ H fun v H1 => td σ H1 fun x H2 => ty σ H2 fun y H3 => ∃ d k xs, x = .ref d ∧ KeyAt H3 k y ∧ MD P w H3 d xs ∧ mval xs k = none ∧ xs.length < sizeLine ∧
  ∀ H4, H4 = upd H3 d (.ext (mPhi P w d (mPut xs k y v))) → MD P w H4 d (mPut xs k y v) → D.nx σ H4
theorem ps_mput {o i value : Expr} {pos pos' : Pos} {td ty tv : TE} (hu : X.A.units + 1 < cLine) (ho : PE X o td) (hi : PE X i ty) (hv : PE X value tv) (hs : swapsWith value (some (.Subscript o i pos')) pos.line X.env = pure false) :
    PS X (.Assign [.Subscript o i pos'] value pos) (sMPut X.prog X.w td ty tv) := by
  refine ⟨fun pins s σ H D I h => ?_⟩
  refine wpAny_Assign_Subscript (thn (hv.run pins s σ H _ I h) fun r s1 ⟨v, H1, I1, rv, q1⟩ => thn (ho.run pins s1 σ H1 _ I1 q1) fun u s2 ⟨x, H2, I2, rx, q2⟩ => thn (hi.run pins s2 σ H2 _ I2 q2) fun iv s3 ⟨y, H3, I3, ry, d, k, xs, ex, hk, m, hno, hz, q3⟩ => ?_) hs
  subst ex
  obtain rfl : u = Value.ref d := rx
  obtain ⟨ys, rel, hm⟩ := m.raw I3
  refine m_setItem hu (hk.is I3 ry) hm ((rel.get (k := k)).2 hno) (fun h' tk hm' hs' => ?_) (by rw [← rel.length]; exact m.le)
  have hMut : Mut (H3 d) := by rw [m.at_]; exact True.intro
  have nd : k ∉ xs.map (·.1) := by
    intro hin
    obtain ⟨z, hz, e⟩ := List.mem_map.mp hin
    have : mval xs k = none := hno
    unfold mval at this
    rw [Option.map_eq_none_iff, List.find?_eq_none] at this
    exact this z hz (by simp [e])
  have rel2 : MRel (mPut xs k y v) (ys ++ [(k, iv, r)]) := by
    have : ∀ {xs : MX} {ys : List (MK × Value × Value)}, MRel xs ys → MRel (xs ++ [(k, y, v)]) (ys ++ [(k, iv, r)]) := by
      intro xs ys h
      induction h with
      | nil => exact .cons ⟨rfl, ry, rv⟩ .nil
      | cons a _ ih => exact .cons a ih
    exact this rel
  have phi : mPhi X.prog X.w d (mPut xs k y v) h' := by
    obtain ⟨o, es, ep, ho, hc, hd, he, _, _⟩ := hm'
    exact ⟨_, rel2, o, es, ep, ho, hc, hd, he⟩
  have hob : ∃ o, h'.get? d = some o := by obtain ⟨o, _, _, ho, _⟩ := hm'; exact ⟨o, ho⟩
  have new : ObjOk X.prog X.w (upd H3 d (.ext (mPhi X.prog X.w d (mPut xs k y v)))) h' d (.ext (mPhi X.prog X.w d (mPut xs k y v))) := by
    refine ⟨phi, hob, fun h1 h2 q k1 => ?_⟩
    obtain ⟨ys', r', o, es, ep, ho, z⟩ := q
    exact ⟨ys', r', o, es, ep, k1 o ho, z⟩
  have I4 : Inv X pins σ (upd H3 d (.ext (mPhi X.prog X.w d (mPut xs k y v)))) { s3 with heap := h', toks := tk } :=
    I3.write (x := d) (e := d) (t' := tk) hMut (.inl rfl) (fun b u hb e => (hs'.2 b hb).trans e) hob new
  have tups : ∀ a zs, H3 a = some (.tup zs) → upd H3 d (.ext (mPhi X.prog X.w d (mPut xs k y v))) a = some (.tup zs) := fun a zs e => by
    rw [upd_ne (fun z => by rw [z, m.at_] at e; cases e)]; exact e
  refine ⟨σ, _, I4, q3 _ rfl ⟨upd_same, fun x hx => ?_, ?_, ?_, m.low⟩⟩
  · rcases List.mem_append.mp hx with hx | hx
    · exact (m.keys x hx).mono tups
    · rw [List.mem_singleton.mp hx]
      exact hk.mono tups
  · show ((xs ++ [(k, y, v)]).map (·.1)).Nodup
    rw [List.map_append, List.nodup_append]
    refine ⟨m.nd, by simp, ?_⟩
    intro a ha b hb
    simp only [List.map_cons, List.map_nil, List.mem_singleton] at hb
    subst hb
    exact fun e => nd (e ▸ ha)
  · show (xs ++ [(k, y, v)]).length ≤ sizeLine
    rw [List.length_append]
    exact hz
/-- {}, to be such a dict -/
def tMNew (P : Program) (w : World) : TE := fun _ H Q => ∀ d, H d = none → (d == sysModules) = false → Q (.ref d) (upd H d (.ext (mPhi P w d [])))
theorem pe_mnew {pos : Pos} : PE X (.Dict [] [] pos) (tMNew X.prog X.w) := ⟨fun pins s σ H Q I h => by
  have hm : (s.heap.objs.size == sysModules) = false := beq_eq_false_iff_ne.mpr (Nat.ne_of_gt I.big)
  have ho := Heap.get?_push_size s.heap (o := ({ cls := .type "dict", data := .dict #[] } : Obj)) rfl
  refine wpAny_Dict_empty ⟨.ref s.heap.objs.size, _, I.laid (a := s.heap.objs.size) (o := .ext (mPhi X.prog X.w s.heap.objs.size [])) (t' := s.toks) (fun _ _ q => Heap.get?_push_of_some _ q) (Nat.le_refl _) ?_, rfl, h _ (I.hok.fresh (Nat.le_refl _)) hm⟩
  refine ⟨⟨[], .nil, _, #[], 0, ho, ⟨rfl, rfl, rfl⟩, rfl, rfl⟩, ⟨_, ho⟩, fun h1 h2 q k1 => ?_⟩
  obtain ⟨ys', r', o, es, ep, ho, z⟩ := q
  exact ⟨ys', r', o, es, ep, k1 o ho, z⟩⟩
theorem MD.nil {P : Program} {w : World} {H : Hp} {d : Addr} (e : H d = some (.ext (mPhi P w d []))) (low : (d == sysModules) = false) : MD P w H d [] :=
  ⟨e, (fun _ h => nomatch h), List.nodup_nil, Nat.zero_le _, low⟩
end
/-! ### a written dict with text keys, and its copy -/
/-- at d stands a written dict with these texts and values -/
def KTab (K : PySem.W.Frag) (w : World) (d : Addr) (kvs : List (Str × V)) : Prop :=
  ∃ es n, K.lookup d = some ⟨.type "dict", none, .dict es n, #[]⟩ ∧ Paired (fun (e : DictEntry) (p : Str × V) => (∃ t, e.key = .str p.1 t ∧ e.hash = PyData.keyHash w.params p.1) ∧ RelV p.2 e.val) es.toList kvs ∧ (d == sysModules) = false ∧ (kvs.map (·.1)).Nodup ∧ kvs.length ≤ sizeLine
section
variable {X : Cx} {pins : List (Addr × Obj)} {σ : L2.St} {H : Hp} {s : Shared}
def kkey (kvs : List (Str × V)) : List (Key × V) := kvs.map fun p => (Sum.inr p.1, p.2)
theorem ktab_pairs {P : Program} {w : World} : ∀ {es : List DictEntry} {kvs : List (Str × V)}, Paired (fun (e : DictEntry) (p : Str × V) => (∃ t, e.key = .str p.1 t ∧ e.hash = PyData.keyHash w.params p.1) ∧ RelV p.2 e.val) es kvs →
    ∃ vs, KV (kkey kvs) vs ∧ Pairs (mixKind P w) es vs ∧ ∀ e ∈ es, ∃ k, (mixKind P w).is k e.key = true ∧ e.hash = (mixKind P w).hash k
  | _, _, .nil => ⟨[], .nil, .nil, fun _ h => nomatch h⟩
  | e :: es, p :: kvs, .cons r t => by
    obtain ⟨vs, h1, h2, h3⟩ := ktab_pairs (P := P) t
    obtain ⟨⟨tk, hk, hh⟩, rv⟩ := r
    refine ⟨(Sum.inr p.1, e.val) :: vs, .cons ⟨rfl, rv⟩ h1, ?_, ?_⟩
    · exact .cons (show (mixKind P w).is (Sum.inr p.1) e.key = true by rw [mixKind_is, hk]; exact keyIs_str p.1 tk) rfl h2
    · intro e' he
      rcases List.mem_cons.mp he with rfl | he
      · exact ⟨Sum.inr p.1, by rw [hk]; exact keyIs_str p.1 tk, hh⟩
      · exact h3 e' he
/-- dict(SPECIAL): a new dict of the same -/
theorem call_dict_kd {d : Addr} {kvs : List (Str × V)} (T : KTab X.K X.w d kvs) : CallR X (.type "dict") (fun xs H Q => xs = [.ref d] ∧ ∀ p, H p = none → Q (.ref p) (upd H p (.dK (kkey kvs)))) := by
  intro pins s σ H xs us Q I r q
  obtain ⟨rfl, q⟩ := q
  cases r with
  | cons r1 r =>
    cases r
    cases r1
    obtain ⟨es, n, hl, hp, low, nd, hz⟩ := T
    obtain ⟨vs, rel, hpairs, hkeys⟩ := ktab_pairs (P := X.prog) hp
    have hlen : vs.length = kvs.length := by
      have := Paired.length rel
      unfold kkey at this
      rw [List.length_map] at this
      exact this.symm
    have nd2 : (vs.map (·.1)).Nodup := by
      have e : vs.map (·.1) = (kkey kvs).map (·.1) := by
        have : ∀ {a : List (Key × V)} {b : List (Key × Value)}, KV a b → b.map (·.1) = a.map (·.1) := by
          intro a b h
          induction h with
          | nil => rfl
          | cons r _ ih => rw [List.map_cons, List.map_cons, ih, r.1]
        exact this rel
      rw [e]
      unfold kkey
      rw [List.map_map]
      have : (kvs.map ((fun x : Key × V => x.1) ∘ fun p => ((Sum.inr p.1 : Key), p.2))) = (kvs.map (·.1)).map Sum.inr := by rw [List.map_map]; rfl
      rw [this]
      exact List.Pairwise.map Sum.inr (fun _ _ h q => h (Sum.inr.inj q)) nd
    have dd : s.heap.DictOf (mixKind X.prog X.w) d vs := ⟨_, es, n, I.kIn _ _ hl, ⟨rfl, rfl, rfl⟩, rfl, fun e he => hkeys e (Array.mem_toList_iff.mpr he), hpairs, nd2⟩
    refine kt_call_dict low dd (by rw [hlen]; exact hz) fun h' d' hs => ?_
    have hm : (s.heap.objs.size == sysModules) = false := beq_eq_false_iff_ne.mpr (Nat.ne_of_gt I.big)
    have hz2 : (kkey kvs).length ≤ sizeLine := by unfold kkey; rw [List.length_map]; exact hz
    exact ⟨.ref s.heap.objs.size, upd H s.heap.objs.size (.dK (kkey kvs)), I.laid (t' := s.toks) (fun b u e => (hs.2 b (Nat.ne_of_lt (Heap.lt_size e))).trans (Heap.get?_push_of_some _ e)) (Nat.le_refl _)
      (show ObjOk X.prog X.w _ _ _ (.dK (kkey kvs)) from ⟨hz2, hm, vs, rel, d'⟩), rfl, q _ (I.hok.fresh (Nat.le_refl _))⟩
theorem ktab_find {K : PySem.W.Frag} {w : World} {d : Addr} {kvs : List (Str × V)} (T : KTab K w d kvs) (z : Str) : ∃ es n r, KDict K w d es n ∧ PySem.W.nsIn K d z = some r ∧ r.isSome = decide (z ∈ kvs.map (·.1)) := by
  obtain ⟨es, n, hl, hp, low, nd, hz⟩ := T
  have lit : ∀ {es : List DictEntry} {kvs : List (Str × V)}, Paired (fun (e : DictEntry) (p : Str × V) => (∃ t, e.key = .str p.1 t ∧ e.hash = PyData.keyHash w.params p.1) ∧ RelV p.2 e.val) es kvs →
      PySem.W.KeysLit w.params es ∧ (es.any (·.refKey)) = false ∧ ((es.find? (·.key.isStr z)).isSome = decide (z ∈ kvs.map (·.1))) := by
    intro es kvs h
    induction h with
    | nil => exact ⟨trivial, rfl, by simp⟩
    | @cons e p es kvs r t ih =>
      obtain ⟨⟨tk, hk, hh⟩, rv⟩ := r
      refine ⟨⟨⟨p.1, tk, hk, hh⟩, ih.1⟩, ?_, ?_⟩
      · rw [List.any_cons, ih.2.1, Bool.or_false]
        unfold DictEntry.refKey
        rw [hk]
      · rw [List.find?_cons, hk]
        by_cases e : p.1 = z
        · subst e
          simp [Value.isStr]
        · have e2 : (Value.str p.1 tk).isStr z = false := by
            simp [Value.isStr, e]
          have e3 : ¬ z = p.1 := fun q => e q.symm
          rw [e2, ih.2.2]
          simp [e3]
  obtain ⟨h1, h2, h3⟩ := lit hp
  refine ⟨es, n, (es.toList.find? (·.key.isStr z)).map (·.val), ⟨hl, h1, low⟩, ?_, by rw [Option.isSome_map]; exact h3⟩
  unfold PySem.W.nsIn
  rw [hl]
  dsimp only
  cases e : es.toList.find? (·.key.isStr z) with
  | some en => rfl
  | none => simp only [h2]; rfl
/-- z in SPECIAL -/
theorem op_in_ktab {d : Addr} {kvs : List (Str × V)} (T : KTab X.K X.w d kvs) : OpR X (compareOp .In) (fun x y H Q => ∃ z : Str, x = .str z ∧ y = .ref d ∧ Q (.bl (decide (z ∈ kvs.map (·.1)))) H) := by
  intro pins s σ H x y v u Q I rx ry h
  obtain ⟨z, rfl, rfl, q⟩ := h
  obtain ⟨es, n, r, D, e1, e2⟩ := ktab_find T z
  exact op_in_kd D pins s σ H _ _ v u Q I rx ry ⟨z, r, rfl, rfl, e1, by rw [e2]; exact q⟩
end
end K46
/-! The text by places; values in the heap; rules that forget where a new tuple stands. -/
namespace K46
open PySem PySem.Spec PyProof.Rows L2

def top (i : Nat) : Stmt := PySem.Challenge.pw_ownglass_k46_whole_texts_to_runs.main.body.getD i (.Pass ⟨0, 0, 0, 0⟩)

/-! ### values in the heap -/
mutual
def Rep (K : PySem.W.Frag) (H : Hp) : T → V → Prop
  | .w x, v => v = .str x
  | .l ts, v => ∃ a vs, v = .ref a ∧ SqT K H a vs ∧ Reps K H ts vs
def Reps (K : PySem.W.Frag) (H : Hp) : List T → List V → Prop
  | [], vs => vs = []
  | t :: ts, vs => ∃ v r, vs = v :: r ∧ Rep K H t v ∧ Reps K H ts r
end
theorem _root_.L2.SqT.same {K : PySem.W.Frag} {H H' : Hp} {a : Addr} {xs : List V} (e : Same H H') (h : SqT K H a xs) : SqT K H' a xs := by
  rcases h with (h | ⟨o, h⟩) | h
  · exact .inl (.inl (e _ _ h))
  · exact .inl (.inr ⟨o, e _ _ h⟩)
  · exact .inr h
/-- tuples stay -/
def Tups (H H' : Hp) : Prop := (∀ b xs, H b = some (.tup xs) → H' b = some (.tup xs)) ∧ ∀ b o xs, H b = some (.frz o (.tup xs)) → H' b = some (.frz o (.tup xs))
theorem _root_.L2.Same.tups {H H' : Hp} (e : Same H H') : Tups H H' := ⟨fun _ _ h => e _ _ h, fun _ _ _ h => e _ _ h⟩
theorem Tups.refl {H : Hp} : Tups H H := ⟨fun _ _ h => h, fun _ _ _ h => h⟩
theorem Tups.trans {H H1 H2 : Hp} (a : Tups H H1) (b : Tups H1 H2) : Tups H H2 := ⟨fun _ _ h => b.1 _ _ (a.1 _ _ h), fun _ _ _ h => b.2 _ _ _ (a.2 _ _ _ h)⟩
theorem Tups.upd {H : Hp} {p : Addr} {o u : HO} (h : H p = some u) (m : Mut (some u)) : Tups H (upd H p o) :=
  ⟨fun b xs e => by rw [upd_ne (fun z => by rw [z, h] at e; cases e; exact m)]; exact e, fun b q xs e => by rw [upd_ne (fun z => by rw [z, h] at e; cases e; exact m)]; exact e⟩
theorem _root_.L2.SqT.tups {K : PySem.W.Frag} {H H' : Hp} {a : Addr} {xs : List V} (e : Tups H H') (h : SqT K H a xs) : SqT K H' a xs := by
  rcases h with (h | ⟨o, h⟩) | h
  · exact .inl (.inl (e.1 _ _ h))
  · exact .inl (.inr ⟨o, e.2 _ _ _ h⟩)
  · exact .inr h
mutual
theorem Rep.tups {K : PySem.W.Frag} {H H' : Hp} (e : Tups H H') : ∀ {t : T} {v : V}, Rep K H t v → Rep K H' t v
  | .w x, v, h => by simpa [Rep] using h
  | .l ts, v, h => by
    simp only [Rep] at h ⊢
    obtain ⟨a, vs, h1, h2, h3⟩ := h
    exact ⟨a, vs, h1, SqT.tups e h2, Reps.tups e h3⟩
theorem Reps.tups {K : PySem.W.Frag} {H H' : Hp} (e : Tups H H') : ∀ {ts : List T} {vs : List V}, Reps K H ts vs → Reps K H' ts vs
  | [], vs, h => by simpa [Reps] using h
  | t :: ts, vs, h => by
    simp only [Reps] at h ⊢
    obtain ⟨v, r, h1, h2, h3⟩ := h
    exact ⟨v, r, h1, Rep.tups e h2, Reps.tups e h3⟩
end
theorem Rep.same {K : PySem.W.Frag} {H H' : Hp} (e : Same H H') {t : T} {v : V} (h : Rep K H t v) : Rep K H' t v := h.tups e.tups
theorem Reps.same {K : PySem.W.Frag} {H H' : Hp} (e : Same H H') {ts : List T} {vs : List V} (h : Reps K H ts vs) : Reps K H' ts vs := h.tups e.tups
theorem Rep.w {K : PySem.W.Frag} {H : Hp} {x : Str} : Rep K H (.w x) (.str x) := by simp [Rep]
theorem Rep.w_eq {K : PySem.W.Frag} {H : Hp} {x : Str} {v : V} (h : Rep K H (.w x) v) : v = .str x := by simpa [Rep] using h
theorem Rep.l {K : PySem.W.Frag} {H : Hp} {a : Addr} {vs : List V} {ts : List T} (h : SqT K H a vs) (k : Reps K H ts vs) : Rep K H (.l ts) (.ref a) := by
  simp only [Rep]; exact ⟨a, vs, rfl, h, k⟩
theorem Rep.l_eq {K : PySem.W.Frag} {H : Hp} {ts : List T} {v : V} (h : Rep K H (.l ts) v) : ∃ a vs, v = .ref a ∧ SqT K H a vs ∧ Reps K H ts vs := by
  simpa only [Rep] using h
theorem Reps.nil {K : PySem.W.Frag} {H : Hp} : Reps K H [] [] := by simp [Reps]
theorem Reps.cons {K : PySem.W.Frag} {H : Hp} {t : T} {ts : List T} {v : V} {vs : List V} (h : Rep K H t v) (k : Reps K H ts vs) : Reps K H (t :: ts) (v :: vs) := by
  simp only [Reps]; exact ⟨v, vs, rfl, h, k⟩
theorem Reps.nil_eq {K : PySem.W.Frag} {H : Hp} {vs : List V} (h : Reps K H [] vs) : vs = [] := by simpa [Reps] using h
theorem Reps.cons_eq {K : PySem.W.Frag} {H : Hp} {t : T} {ts : List T} {vs : List V} (h : Reps K H (t :: ts) vs) : ∃ v r, vs = v :: r ∧ Rep K H t v ∧ Reps K H ts r := by
  simpa only [Reps] using h
theorem Reps.length {K : PySem.W.Frag} {H : Hp} : ∀ {ts : List T} {vs : List V}, Reps K H ts vs → vs.length = ts.length
  | [], vs, h => by rw [h.nil_eq]; rfl
  | t :: ts, vs, h => by
    obtain ⟨v, r, rfl, _, h3⟩ := h.cons_eq
    rw [List.length_cons, List.length_cons, Reps.length h3]
theorem Reps.get {K : PySem.W.Frag} {H : Hp} : ∀ {ts : List T} {vs : List V} {i : Nat} {t : T}, Reps K H ts vs → ts[i]? = some t → ∃ v, vs[i]? = some v ∧ Rep K H t v
  | [], _, _, _, _, e => by simp at e
  | t :: ts, vs, 0, u, h, e => by
    obtain ⟨v, r, rfl, h2, h3⟩ := h.cons_eq
    simp at e
    subst e
    exact ⟨v, rfl, h2⟩
  | t :: ts, vs, i + 1, u, h, e => by
    obtain ⟨v, r, rfl, h2, h3⟩ := h.cons_eq
    obtain ⟨v', e1, e2⟩ := Reps.get (i := i) h3 (by simpa using e)
    exact ⟨v', by simpa using e1, e2⟩
theorem Reps.getV {K : PySem.W.Frag} {H : Hp} {ts : List T} {vs : List V} {i : Nat} {v : V} (h : Reps K H ts vs) (e : vs[i]? = some v) : ∃ t, ts[i]? = some t ∧ Rep K H t v := by
  have hl := h.length
  have hi : i < ts.length := by
    have := (List.getElem?_eq_some_iff.mp e).1
    omega
  obtain ⟨v', e1, e2⟩ := h.get (List.getElem?_eq_getElem hi)
  rw [e1] at e
  cases e
  exact ⟨_, List.getElem?_eq_getElem hi, e2⟩
theorem Reps.append {K : PySem.W.Frag} {H : Hp} : ∀ {ts us : List T} {vs ws : List V}, Reps K H ts vs → Reps K H us ws → Reps K H (ts ++ us) (vs ++ ws)
  | [], us, vs, ws, h, k => by rw [h.nil_eq]; exact k
  | t :: ts, us, vs, ws, h, k => by
    obtain ⟨v, r, rfl, h2, h3⟩ := h.cons_eq
    exact .cons h2 (Reps.append h3 k)
theorem Reps.snoc {K : PySem.W.Frag} {H : Hp} {ts : List T} {vs : List V} {t : T} {v : V} (h : Reps K H ts vs) (k : Rep K H t v) : Reps K H (ts ++ [t]) (vs ++ [v]) := h.append (.cons k .nil)
theorem Reps.drop {K : PySem.W.Frag} {H : Hp} : ∀ (n : Nat) {ts : List T} {vs : List V}, Reps K H ts vs → Reps K H (ts.drop n) (vs.drop n)
  | 0, _, _, h => h
  | n + 1, [], vs, h => by rw [h.nil_eq]; exact .nil
  | n + 1, t :: ts, vs, h => by
    obtain ⟨v, r, rfl, h2, h3⟩ := h.cons_eq
    exact Reps.drop n h3
theorem Reps.take {K : PySem.W.Frag} {H : Hp} : ∀ (n : Nat) {ts : List T} {vs : List V}, Reps K H ts vs → Reps K H (ts.take n) (vs.take n)
  | 0, _, _, h => .nil
  | n + 1, [], vs, h => by rw [h.nil_eq]; exact .nil
  | n + 1, t :: ts, vs, h => by
    obtain ⟨v, r, rfl, h2, h3⟩ := h.cons_eq
    exact .cons h2 (Reps.take n h3)
theorem Reps.words {K : PySem.W.Frag} {H : Hp} : ∀ (xs : List Str), Reps K H (xs.map T.w) (xs.map V.str)
  | [] => .nil
  | x :: xs => .cons .w (Reps.words xs)
theorem Reps.words_eq {K : PySem.W.Frag} {H : Hp} : ∀ {xs : List Str} {vs : List V}, Reps K H (xs.map T.w) vs → vs = xs.map V.str
  | [], vs, h => h.nil_eq
  | x :: xs, vs, h => by
    obtain ⟨v, r, rfl, h2, h3⟩ := h.cons_eq
    rw [h2.w_eq, Reps.words_eq h3]; rfl

/-! ### heaps -/
theorem same_upd {H : Hp} {p : Addr} {o : HO} (h : H p = none) : Same H (upd H p o) := fun b u e => by
  rw [upd_ne (ne_of_none e h)]; exact e
theorem _root_.L2.Same.upd {H0 H : Hp} {p : Addr} {o : HO} (S : Same H0 H) (h : H0 p = none) : Same H0 (upd H p o) := fun b u e => by
  rw [upd_ne (ne_of_none e h)]; exact S _ _ e
/-- what is handed back: a value -/
def Ret (K : PySem.W.Frag) (H : Hp) (Q : VK) (t : T) : Prop := ∀ r H', Same H H' → Rep K H' t r → Q r H'

/-! ### rules that forget where -/
section
variable {X : Cx}
theorem _root_.L2.PE.imp {e : Expr} {t t' : TE} (h : PE X e t) (k : ∀ σ H Q, t' σ H Q → t σ H Q) : PE X e t' := ⟨fun pins s σ H Q I q => h.run pins s σ H Q I (k σ H Q q)⟩
/-- a new tuple -/
def tTupS (K : PySem.W.Frag) (t : TA) : TE := fun σ H Q => t σ H fun xs H1 => xs.length ≤ sizeLine ∧ ∀ p H2, Same H1 H2 → H1 p = none → H2 p = some (.tup xs) → Q (.ref p) H2
theorem pe_tupS {es : List Expr} {x1} {pos : Pos} {t : TA} (h : PA X es t) (mono : ∀ σ H Q Q', (∀ xs H1, Q xs H1 → Q' xs H1) → t σ H Q → t σ H Q') : PE X (.Tuple es x1 pos) (tTupS X.K t) :=
  (pe_tup h).imp fun σ H Q q => mono σ H _ _ (fun xs H1 ⟨z, k⟩ => ⟨z, fun p hp => k p _ (same_upd hp) hp upd_same⟩) q
/-- t + u -/
def rCatS (K : PySem.W.Frag) : R2 := fun x y H Q => ∃ a b xs ys, x = .ref a ∧ y = .ref b ∧ SqT K H a xs ∧ SqT K H b ys ∧ xs.length + ys.length ≤ sizeLine ∧ ∀ p H', Same H H' → SqT K H' p (xs ++ ys) → Q (.ref p) H'
theorem op_catS : OpR X (binaryOp .Add) (rCatS X.K) := by
  intro pins s σ H x y v u Q I rx ry ⟨a, b, xs, ys, ex, ey, ha, hb, hz, k⟩
  refine op_catA pins s σ H x y v u Q I rx ry ⟨a, b, xs, ys, ex, ey, ha, hb, hz, fun e => ?_, fun _ e => ?_, fun _ _ p hp => k p _ (same_upd hp) (SqT.of upd_same)⟩
  · subst e; exact k b H (Same.refl H) hb
  · subst e; exact k a H (Same.refl H) (by rw [List.append_nil]; exact ha)
/-- t[lo:hi] -/
def rSlS (K : PySem.W.Frag) : V → Option Int → Option Int → Hp → VK → Prop := fun x lo hi H Q => ∃ a xs, x = .ref a ∧ SqT K H a xs ∧ ∀ p H', Same H H' → SqT K H' p (cutV xs lo hi) → Q (.ref p) H'
theorem sl_tupS : SlR X (rSlS X.K) := by
  intro pins s σ H x v vl vu lo hi sl Q I rx hs pl pu ⟨a, xs, ex, hx, k⟩
  refine sl_tupA pins s σ H x v vl vu lo hi sl Q I rx hs pl pu ⟨a, xs, ex, hx, fun e => ?_, fun _ p hp => k p _ (same_upd hp) (SqT.of upd_same)⟩
  refine k a H (Same.refl H) ?_
  have : cutV xs lo hi = xs := by
    unfold cutV
    rw [e.1, e.2]
    simp
  rw [this]
  exact hx
/-- tuple(a list) -/
def rTupOf (K : PySem.W.Frag) : List V → Hp → VK → Prop := fun xs H Q => ∃ p ys, xs = [.ref p] ∧ SqL K H p ys ∧ ∀ l H', Same H H' → SqT K H' l ys → Q (.ref l) H'
theorem call_tupOf : CallR X (.type "tuple") (rTupOf X.K) := by
  intro pins s σ H xs us Q I r ⟨p, ys, e, h, k⟩
  exact call_tuple_of pins s σ H xs us Q I r ⟨p, ys, e, .inl ⟨h, fun l hl => k l _ (same_upd hl) (SqT.of upd_same)⟩⟩
/-- isinstance(v, str) of a value -/
def rIsStr (K : PySem.W.Frag) : List V → Hp → VK → Prop := fun xs H Q => ∃ t v, xs = [v, .ty "str"] ∧ Rep K H t v ∧ Q (.bl (isW t)) H
theorem _root_.L2.SqT.ty {K : PySem.W.Frag} {H : Hp} {a : Addr} {xs : List V} (h : SqT K H a xs) : TyX K H (.ref a) (.type "tuple") := by
  rcases h with (h | ⟨o, h⟩) | ⟨o, its, n, hk, hc, _⟩
  · exact .base (.tup h)
  · exact .fTuple h
  · exact .kTuple hk hc
theorem call_isStr : CallR X (.builtin "isinstance") (rIsStr X.K) := by
  intro pins s σ H xs us Q I r ⟨t, v, e, h, k⟩
  cases t with
  | w x =>
    rw [h.w_eq] at e
    exact call_isi pins s σ H xs us Q I r ⟨_, _, _, _, true, e, .ty _, .base (.str x), kit_ty (by decide +kernel), k⟩
  | l ts =>
    obtain ⟨a, vs, rfl, h2, h3⟩ := h.l_eq
    exact call_isi pins s σ H xs us Q I r ⟨_, _, _, _, false, e, .ty _, SqT.ty h2, kit_ty (by decide +kernel), k⟩
/-- isinstance(v, tuple) of a value -/
def rIsTup (K : PySem.W.Frag) : List V → Hp → VK → Prop := fun xs H Q => ∃ t v, xs = [v, .ty "tuple"] ∧ Rep K H t v ∧ Q (.bl (!isW t)) H
theorem call_isTup : CallR X (.builtin "isinstance") (rIsTup X.K) := by
  intro pins s σ H xs us Q I r ⟨t, v, e, h, k⟩
  cases t with
  | w x =>
    rw [h.w_eq] at e
    exact call_isi pins s σ H xs us Q I r ⟨_, _, _, _, false, e, .ty _, .base (.str x), kit_ty (by decide +kernel), k⟩
  | l ts =>
    obtain ⟨a, vs, rfl, h2, h3⟩ := h.l_eq
    exact call_isi pins s σ H xs us Q I r ⟨_, _, _, _, true, e, .ty _, SqT.ty h2, kit_ty (by decide +kernel), k⟩
end
/-- a def of the top -/
structure Dfn (K : PySem.W.Frag) (mg : Str → Option Value) (x : Str) (st : Stmt) (ps : List Str) (f : Addr) (fd : FuncData) : Prop where
  F : Fun K x x st f fd
  b : Binds K fd ps []
  g : mg x = some (.ref f)
end K46
/-! texts: behind_run, behind_word. -/
namespace K46
open PySem PySem.Spec PyProof.Rows L2

/-- the built-in names are free -/
structure Bl (mg : Str → Option Value) : Prop where
  len : mg "len" = none
  isinstance : mg "isinstance" = none
  str : mg "str" = none
  tuple : mg "tuple" = none
  range : mg "range" = none
  reversed : mg "reversed" = none
  zip : mg "zip" = none
  enumerate : mg "enumerate" = none
  dict : mg "dict" = none
  int : mg "int" = none
  abs : mg "abs" = none
  min : mg "min" = none
  max : mg "max" = none
  list : mg "list" = none

def runLen (g : List Nat) : List Nat → Nat
  | [] => 0
  | c :: cs => if c ∈ g then runLen g cs + 1 else 0
theorem runLen_le (g : List Nat) : ∀ cs : List Nat, runLen g cs ≤ cs.length
  | [] => Nat.le_refl _
  | c :: cs => by
    rw [runLen]
    split
    · have := runLen_le g cs
      rw [List.length_cons]; omega
    · exact Nat.zero_le _
def spBehindRun : Sp := fun vs H Q _ => ∃ (z g : Str) (n : Nat), vs = [.str z, .int (n : Int), .str g] ∧ z.length ≤ sizeLine ∧ n ≤ z.length ∧ Q (.int ((n + runLen g.cps.toList (z.cps.toList.drop n) : Nat) : Int)) H
abbrev sBehindRun : Stmt := top 10
theorem scBehindRun : FnScope ["text", "start", "signs", "end"] ["text", "start", "signs"] (defScope sBehindRun) := ⟨rfl, rfl, rfl, by decide +kernel, rfl, by decide +kernel, by decide +kernel⟩
section
variable {P : Program} {w : World} {K : PySem.W.Frag} {mg : Str → Option Value} {base : Heap}
theorem ok_behindRun {f : Addr} {fd : FuncData} (B : Bl mg) (D : Dfn K mg "behind_run" sBehindRun ["text", "start", "signs"] f fd) : FnOk P w K mg base CX0 1 f fd ["text", "start", "signs"] spBehindRun := by
  refine D.F.ok scBehindRun (fun vs H Q E h => ?_) (fun cdv A outer s H vs Q E hr h => ?_)
  · obtain ⟨z, g, n, rfl, _⟩ := h
    rfl
  · obtain ⟨z, g, n, rfl, hz, hn, k⟩ := h
    have nd := scBehindRun.nd
    refine ⟨_, pss_cons (ps_set (i := 3) nd rfl (.inl rfl) (pv 1))
      (pss_cons (ps_while PassesOwn.never (PW.pt (pw_and (pt_cmpR op_lt (pv 3) (pe_callB call_len_str (by rfl) B.len PySem.boot_len (pa_cons (pv 0) pa_nil)) (nomark _))
          (pw_and1 (pt_cmpR op_in_sign (pe_item_str (pv 0) (pv 3) (fun _ _ => rfl)) (pv 2) (by rfl)))))
        (pss_one (ps_aug (i := 3) nd rfl (.inl rfl) pe_int ip_add)))
      (pss_one (ps_ret (pv 3)))), ?_⟩
    refine ⟨_, rfl, ?_⟩
    refine ⟨fun m σ H' => ∃ e : Nat, H' = H ∧ σ = [some (.str z), some (.int n), some (.str g), some (.int (e : Int))] ∧ n ≤ e ∧ e ≤ z.length ∧ m = z.length - e ∧ e + runLen g.cps.toList (z.cps.toList.drop e) = n + runLen g.cps.toList (z.cps.toList.drop n), ⟨_, n, rfl, rfl, Nat.le_refl _, hn, rfl, rfl⟩, ?_⟩
    rintro m σ H' ⟨e, rfl, rfl, h1, h2, rfl, h3⟩
    refine ⟨_, rfl, _, rfl, z, rfl, hz, _, _, rfl, rfl, _, rfl, ?_⟩
    have hlen : z.cps.toList.length = z.length := by show z.cps.toList.length = z.cps.size; rw [Array.length_toList]
    by_cases hlt : e < z.length
    · rw [decide_eq_true (show (e : Int) < (z.length : Int) by omega)]
      refine iteT ?_
      have hlt2 : e < z.cps.toList.length := by rw [hlen]; exact hlt
      obtain ⟨c, hc⟩ : ∃ c, z.cps[e]? = some c := ⟨_, Array.getElem?_eq_getElem hlt⟩
      have hd : z.cps.toList.drop e = c :: z.cps.toList.drop (e + 1) := by
        rw [List.drop_eq_getElem_cons hlt2]
        congr 1
        have : z.cps.toList[e]? = some c := by rw [Array.getElem?_toList]; exact hc
        rw [List.getElem?_eq_getElem hlt2] at this
        exact Option.some.inj this
      have hs : sizeLine = 16777216 := rfl
      refine ⟨_, rfl, _, rfl, z, (e : Int), c, rfl, rfl, by omega, by omega, by omega, by rw [Int.toNat_natCast]; exact hc, ?_⟩
      refine ⟨_, rfl, c, g, rfl, rfl, _, rfl, ?_⟩
      rw [hd, runLen] at h3
      by_cases hg : c ∈ g.cps.toList
      · rw [decide_eq_true hg]
        refine iteT ?_
        rw [if_pos hg] at h3
        refine ⟨fun σ' H1 => ∃ e' : Nat, H1 = H' ∧ σ' = [some (.str z), some (.int n), some (.str g), some (.int (e' : Int))] ∧ e' = e + 1, ?_, ?_⟩
        · rintro σ' H' ⟨e', rfl, rfl, rfl⟩
          exact ⟨z.length - (e + 1), by omega, e + 1, rfl, rfl, by omega, by omega, rfl, by omega⟩
        · refine ⟨_, rfl, _, _, rfl, rfl, ?_⟩
          exact ⟨e + 1, rfl, by simp, rfl⟩
      · have e1 : decide (c ∈ g.cps.toList) = false := decide_eq_false hg
        rw [e1]
        rw [if_neg hg] at h3
        refine iteF ⟨_, rfl, ?_⟩
        rw [← h3] at k
        exact k
    · have e1 : decide ((e : Int) < (z.length : Int)) = false := decide_eq_false (by omega)
      rw [e1]
      refine iteF (iteF ⟨_, rfl, ?_⟩)
      have e2 : e = z.length := by omega
      have hd : z.cps.toList.drop e = [] := List.drop_eq_nil_of_le (by omega)
      rw [hd] at h3
      rw [← h3] at k
      exact k
end
end K46
/-! texts: behind_word, read_value. -/
namespace K46
open PySem PySem.Spec PyProof.Rows L2

/-- the constants of texts -/
structure Cn1 (mg : Str → Option Value) : Prop where
  letters : ∃ t, mg "LETTERS" = some (.str "abcdefghijklmnopqrstuvwxyz" t)
  figures : ∃ t, mg "FIGURES_texts" = some (.str "0123456789" t)
  between : ∃ t, mg "BETWEEN" = some (.str " \n" t)
  most : ∃ t, mg "MOST_SIGNS" = some (.int 12 t)
def lets : Str := "abcdefghijklmnopqrstuvwxyz"
def figs : Str := "0123456789"
def betw : Str := " \n"
theorem lets_list : lets.cps.toList = List.range' 97 26 := by decide +kernel
theorem figs_list : figs.cps.toList = List.range' 48 10 := by decide +kernel
theorem betw_list : betw.cps.toList = [32, 10] := by decide +kernel
theorem mem_lets {c : Nat} : c ∈ lets.cps.toList ↔ isLet c = true := by
  rw [lets_list, List.mem_range'_1]
  simp only [isLet, Bool.and_eq_true, decide_eq_true_eq]
  omega
theorem mem_figs {c : Nat} : c ∈ figs.cps.toList ↔ isFig c = true := by
  rw [figs_list, List.mem_range'_1]
  simp only [isFig, Bool.and_eq_true, decide_eq_true_eq]
  omega
theorem mem_betw {c : Nat} : c ∈ betw.cps.toList ↔ isWs c = true := by
  rw [betw_list]
  simp [isWs]
theorem mem_al {c : Nat} : c ∈ (lets ++ figs).cps.toList ↔ isAl c = true := by
  have e : (lets ++ figs).cps.toList = lets.cps.toList ++ figs.cps.toList := Array.toList_append ..
  rw [e, List.mem_append, mem_lets, mem_figs]
  simp [isAl]
theorem len_toList (z : Str) : z.cps.toList.length = z.length := by show z.cps.toList.length = z.cps.size; rw [Array.length_toList]
theorem cps_get {z : Str} {i c : Nat} : z.cps[i]? = some c ↔ z.cps.toList[i]? = some c := by rw [Array.getElem?_toList]
theorem drop_get {l : List Nat} {n c : Nat} {r : List Nat} (h : l.drop n = c :: r) : l[n]? = some c ∧ n < l.length ∧ l.drop (n + 1) = r := by
  have h1 : n < l.length := by
    rcases Nat.lt_or_ge n l.length with h1 | h1
    · exact h1
    · rw [List.drop_eq_nil_of_le h1] at h; cases h
  rw [List.drop_eq_getElem_cons h1] at h
  injection h with h2 h3
  exact ⟨by rw [List.getElem?_eq_getElem h1, h2], h1, h3⟩
/-- the run of letters and figures of a word that stands first -/
theorem runLen_word {g x cs : List Nat} (hx : ∀ c ∈ x, c ∈ g) (hc : ∀ c r, cs = c :: r → c ∉ g) : runLen g (x ++ cs) = x.length := by
  induction x with
  | nil =>
    cases cs with
    | nil => rfl
    | cons c r =>
      rw [List.nil_append, runLen, if_neg (hc c r rfl)]
      rfl
  | cons c x ih =>
    rw [List.cons_append, runLen, if_pos (hx c List.mem_cons_self), ih fun d hd => hx d (List.mem_cons_of_mem _ hd), List.length_cons]
def spBehindWord : Sp := fun vs H Q _ => ∃ (z : Str) (n : Nat) (x : Str) (r : List Nat), vs = [.str z, .int (n : Int)] ∧ z.length ≤ 10000000 ∧ z.cps.toList.drop n = x.cps.toList ++ r ∧ WordOk x ∧ (∀ c r', r = c :: r' → isAl c = false) ∧
  Q (.int ((n + x.length : Nat) : Int)) H
abbrev sBehindWord : Stmt := top 11
theorem scBehindWord : FnScope ["text", "start", "end"] ["text", "start"] (defScope sBehindWord) := ⟨rfl, rfl, rfl, by decide +kernel, rfl, by decide +kernel, by decide +kernel⟩
theorem line7 : 10000000 ≤ sizeLine := by decide
section
variable {P : Program} {w : World} {K : PySem.W.Frag} {mg : Str → Option Value} {base : Heap}
theorem ok_behindWord {f fR : Addr} {fd fdR : FuncData} (B : Bl mg) (C : Cn1 mg) (D : Dfn K mg "behind_word" sBehindWord ["text", "start"] f fd) (DR : Dfn K mg "behind_run" sBehindRun ["text", "start", "signs"] fR fdR)
    (GR : FnOk P w K mg base CX0 1 fR fdR ["text", "start", "signs"] spBehindRun) : FnOk P w K mg base CX0 2 f fd ["text", "start"] spBehindWord := by
  refine D.F.ok scBehindWord (fun vs H Q E h => ?_) (fun cdv A outer s H vs Q E hr h => ?_)
  · obtain ⟨z, n, x, r, rfl, _⟩ := h
    rfl
  · obtain ⟨z, n, x, r, rfl, hz, hd, hx, hcs, k⟩ := h
    have nd := scBehindWord.nd
    obtain ⟨tl, eL⟩ := C.letters
    obtain ⟨tf, eF⟩ := C.figures
    obtain ⟨tm, eM⟩ := C.most
    refine ⟨_, pss_cons (ps_if (pt_cmpR op_notIn_sign (pe_item_str (pv 0) (pv 1) (fun _ _ => rfl)) (pe_glob (v := .str "abcdefghijklmnopqrstuvwxyz") rfl eL ⟨_, rfl⟩) (by rfl)) pss_never pss_nil)
      (pss_cons (ps_set (i := 2) nd rfl (.inl rfl) (pe_call GR hr rfl DR.g DR.F.kp DR.b .nil pass0 (pa_cons (pv 0) (pa_cons (pv 1) (pa_cons (pe_op op_add_str (pe_glob (v := .str "abcdefghijklmnopqrstuvwxyz") rfl eL ⟨_, rfl⟩) (pe_glob (v := .str "0123456789") rfl eF ⟨_, rfl⟩)) pa_nil)))))
      (pss_cons (ps_if (pt_cmpR op_gt (pe_op op_sub (pv 2) (pv 1)) (pe_glob (v := .int 12) rfl eM ⟨_, rfl⟩) (nomark _)) pss_never pss_nil)
      (pss_one (ps_ret (pv 2))))), ?_⟩
    obtain ⟨c, xr, ex, hc⟩ := hx.first
    have hs : sizeLine = 16777216 := rfl
    rw [ex, List.cons_append] at hd
    obtain ⟨hg, hlt, _⟩ := drop_get hd
    rw [len_toList] at hlt
    refine ⟨_, rfl, _, rfl, z, (n : Int), c, rfl, rfl, by omega, by omega, by omega, by rw [Int.toNat_natCast]; exact cps_get.mpr hg, c, lets, rfl, rfl, _, rfl, ?_⟩
    rw [decide_eq_true (mem_lets.mpr hc)]
    refine iteF ?_
    refine ⟨_, rfl, _, rfl, lets, figs, rfl, rfl, (by decide), z, lets ++ figs, n, rfl, (by omega), (by omega), ?_⟩
    have hr2 : runLen (lets ++ figs).cps.toList (z.cps.toList.drop n) = x.length := by
      rw [hd, ← List.cons_append, ← ex, runLen_word (fun c hc => mem_al.mpr (hx.all c hc)) (fun c r' e q => by have := hcs c r' e; rw [mem_al.mp q] at this; cases this), len_toList]
    rw [hr2]
    refine ⟨_, rfl, _, rfl, _, _, rfl, rfl, _, _, rfl, rfl, _, rfl, ?_⟩
    have hle := hx.le
    rw [len_toList] at hle
    rw [decide_eq_false (show ¬ ((12 : Int) < ((n + x.length : Nat) : Int) - (n : Int)) by omega)]
    refine iteF ⟨_, rfl, ?_⟩
    exact k
end
end K46
/-! texts: read_value. -/
namespace K46
open PySem PySem.Spec PyProof.Rows L2

theorem runLen_ws {cs : List Nat} : ∀ {ts : List Tok}, Lx cs ts → Lx (cs.drop (runLen betw.cps.toList cs)) ts ∧ ∀ c r, cs.drop (runLen betw.cps.toList cs) = c :: r → isWs c = false := by
  induction cs with
  | nil => intro ts h; exact ⟨h, fun c r e => by simp [runLen] at e⟩
  | cons c cs ih =>
    intro ts h
    by_cases hc : isWs c = true
    · rw [runLen, if_pos (mem_betw.mpr hc), List.drop_succ_cons]
      have h' : Lx cs ts := by
        generalize he : c :: cs = l at h
        cases h with
        | nil => cases he
        | ws _ k => injection he with e1 e2; subst e2; exact k
        | op k => injection he with e1 e2; subst e1; simp [isWs] at hc
        | cl k => injection he with e1 e2; subst e1; simp [isWs] at hc
        | wd hx _ _ =>
          obtain ⟨d, xr, ex, hd⟩ := hx.first
          rw [ex, List.cons_append] at he
          injection he with e1 e2
          subst e1
          have := ws_not hc
          rw [let_al hd] at this
          cases this
      exact ih h'
    · rw [runLen, if_neg (fun q => hc (mem_betw.mp q)), List.drop_zero]
      refine ⟨h, fun d r e => ?_⟩
      injection e with e1 _
      subst e1
      cases q : isWs c with
      | true => exact absurd q hc
      | false => rfl

/-- the lists that are open: the innermost first -/
inductive OpnAt (K : PySem.W.Frag) (H0 H : Hp) : List Addr → Opn → Prop
  | nil : OpnAt K H0 H [] []
  | cons {l : Addr} {ls : List Addr} {X : List T} {S : Opn} {vs : List V} : H0 l = none → H l = some (.lst vs) → Reps K H X vs → OpnAt K H0 H ls S → OpnAt K H0 H (l :: ls) (X :: S)
theorem OpnAt.length {K : PySem.W.Frag} {H0 H : Hp} {ls : List Addr} {S : Opn} (h : OpnAt K H0 H ls S) : ls.length = S.length := by
  induction h with
  | nil => rfl
  | cons _ _ _ _ ih => rw [List.length_cons, List.length_cons, ih]
theorem OpnAt.keep {K : PySem.W.Frag} {H0 H H' : Hp} {ls : List Addr} {S : Opn} (h : OpnAt K H0 H ls S) (k : ∀ l ∈ ls, H' l = H l) (t : Tups H H') : OpnAt K H0 H' ls S := by
  induction h with
  | nil => exact .nil
  | cons a b c _ ih => exact .cons a ((k _ List.mem_cons_self).trans b) (c.tups t) (ih fun l hl => k l (List.mem_cons_of_mem _ hl))
theorem OpnAt.some {K : PySem.W.Frag} {H0 H : Hp} {ls : List Addr} {S : Opn} (h : OpnAt K H0 H ls S) : ∀ l ∈ ls, H0 l = none ∧ ∃ vs, H l = some (.lst vs) := by
  induction h with
  | nil => exact fun _ h => nomatch h
  | cons a b _ _ ih =>
    intro l hl
    rcases List.mem_cons.mp hl with rfl | hl
    · exact ⟨a, _, b⟩
    · exact ih l hl
theorem ite_both {c : Bool} {A B : Prop} (h1 : c = true → A) (h2 : c = false → B) : if c = true then A else B := by
  cases c with
  | true => exact iteT (h1 rfl)
  | false => exact iteF (h2 rfl)
structure RdAt (K : PySem.W.Frag) (H0 H : Hp) (p : Addr) (ls : List Addr) (S : Opn) : Prop where
  same : Same H0 H
  p0 : H0 p = none
  pl : H p = some (.lst (ls.map V.ref).reverse)
  np : p ∉ ls
  nd : ls.Nodup
  op : OpnAt K H0 H ls S
/-- a list of lists has so many items -/
def cntS (S : Opn) : Nat := (S.map List.length).sum + S.length
def spRead (K : PySem.W.Frag) : L2.Sp := fun vs H Q _ => ∃ (z : Str) (t : T), vs = [.str z] ∧ z.length ≤ 10000000 ∧ Lx z.cps.toList t.toks ∧ Ret K H Q t
abbrev sRead : Stmt := top 12
theorem scRead : FnScope ["text", "opened", "at", "end", "items"] ["text"] (defScope sRead) := ⟨rfl, rfl, rfl, by decide +kernel, rfl, by decide +kernel, by decide +kernel⟩
theorem rev_last {α : Type} (x : α) (xs : List α) : ((x :: xs).reverse)[(x :: xs).reverse.length - 1]? = some x := by
  simp
theorem atI_revlast {α : Type} (x : α) (xs : List α) : atI ((x :: xs).reverse) (-1) = some x := by
  rw [List.reverse_cons]; exact atI_last _ _
theorem dropLast_rev {α : Type} (x : α) (xs : List α) : ((x :: xs).reverse).dropLast = xs.reverse := by simp
theorem one_op : ("(" : Str) = ⟨#[40]⟩ := by decide +kernel
theorem one_cl : (")" : Str) = ⟨#[41]⟩ := by decide +kernel
theorem one_sp : (" " : Str) = ⟨#[32]⟩ := by decide +kernel
theorem one_nl : ("\n" : Str) = ⟨#[10]⟩ := by decide +kernel
theorem dec_one (c d : Nat) : decide (V.str ⟨#[c]⟩ = V.str ⟨#[d]⟩) = decide (c = d) := by
  by_cases e : c = d
  · subst e; simp
  · rw [decide_eq_false e]
    refine decide_eq_false fun q => e ?_
    injection q with q
    injection q with q
    have := congrArg Array.toList q
    simpa using this
theorem cut_word {z x : Str} {n : Nat} {r : List Nat} (h : z.cps.toList.drop n = x.cps.toList ++ r) (hx : x.cps.toList ≠ []) : cutS z (some (n : Int)) (some ((n + x.length : Nat) : Int)) = x := by
  have hl : n + x.length ≤ z.length := by
    have h1 := congrArg List.length h
    rw [List.length_drop, List.length_append, len_toList, len_toList] at h1
    have h2 : 0 < x.length := by
      rw [← len_toList]
      exact List.length_pos_iff.mpr hx
    omega
  unfold cutS
  rw [HT.sIx_nat, HT.sIx_nat, Nat.min_eq_left (show n ≤ z.length by omega), Nat.min_eq_left hl, h]
  have e : n + x.length - n = x.cps.toList.length := by rw [len_toList]; omega
  rw [e, List.take_left' rfl]
section
variable {P : Program} {w : World} {K : PySem.W.Frag} {mg : Str → Option Value} {base : Heap}
theorem ok_read {f fR fW : Addr} {fd fdR fdW : FuncData} (B : Bl mg) (C : Cn1 mg) (D : Dfn K mg "read_value" sRead ["text"] f fd) (DR : Dfn K mg "behind_run" sBehindRun ["text", "start", "signs"] fR fdR)
    (GR : FnOk P w K mg base CX0 1 fR fdR ["text", "start", "signs"] spBehindRun) (DW : Dfn K mg "behind_word" sBehindWord ["text", "start"] fW fdW)
    (GW : FnOk P w K mg base CX0 2 fW fdW ["text", "start"] spBehindWord) : FnOk P w K mg base CX0 3 f fd ["text"] (spRead K) := by
  refine D.F.ok scRead (fun vs H Q E h => ?_) (fun cdv A outer s H vs Q E hr h => ?_)
  · obtain ⟨z, t, rfl, _⟩ := h
    rfl
  · obtain ⟨z, t, rfl, hz, hlx, k⟩ := h
    have nd := scRead.nd
    obtain ⟨tb, eB⟩ := C.between
    have hr1 : Room 1 _ := hr.mono (by decide)
    have hs : sizeLine = 16777216 := rfl
    refine ⟨_, pss_cons (ps_set (i := 1) nd rfl (.inl rfl) (pe_lst (pa_cons (pe_lst pa_nil) pa_nil)))
      (pss_cons (ps_set (i := 2) nd rfl (.inl rfl) (pe_call GR hr1 rfl DR.g DR.F.kp DR.b .nil pass0 (pa_cons (pv 0) (pa_cons pe_int (pa_cons (pe_glob (v := .str " \n") rfl eB ⟨_, rfl⟩) pa_nil)))))
      (pss_cons (ps_while PassesOwn.never (pt_cmpR op_lt (pv 2) (pe_callB call_len_str (by rfl) B.len PySem.boot_len (pa_cons (pv 0) pa_nil)) (nomark _))
        (pss_cons (ps_set (i := 3) nd rfl (.inl rfl) (pe_op op_add (pv 2) pe_int))
        (pss_cons (ps_if (PW.pt (pw_and (pt_cmpR op_eq (pe_callB call_len_seq (by rfl) B.len PySem.boot_len (pa_cons (pv 1) pa_nil)) pe_int (nomark _))
            (pw_and1 (pt_cmpR op_gt (pe_callB call_len_seq (by rfl) B.len PySem.boot_len (pa_cons (pe_ix ix_list (pv 1) pe_int (fun _ _ => rfl)) pa_nil)) pe_int (nomark _))))) pss_never pss_nil)
        (pss_cons (ps_if (pt_cmpR op_eq (pe_item_str (pv 0) (pv 2) (fun _ _ => rfl)) pe_str (nomark _))
            (pss_one (ps_expr (pe_bm PySem.F.plainAttrs_list PySem.F.slot_list_append PySem.F.type_list_append mt_append (pv 1) (pa_cons (pe_lst pa_nil) pa_nil))))
            (pss_one (ps_if (PW.pt (pw_and (pt_cmpR op_eq (pe_item_str (pv 0) (pv 2) (fun _ _ => rfl)) pe_str (nomark _)) (pw_and1 (pt_cmpR op_gt (pe_callB call_len_seq (by rfl) B.len PySem.boot_len (pa_cons (pv 1) pa_nil)) pe_int (nomark _)))))
              (pss_cons (ps_set (i := 4) nd rfl (.inl rfl) (pe_bm0 PySem.F.plainAttrs_list PySem.F.slot_list_pop PySem.F.type_list_pop mt_pop (pv 1)))
                (pss_one (ps_expr (pe_bm PySem.F.plainAttrs_list PySem.F.slot_list_append PySem.F.type_list_append mt_append (pe_ix ix_list (pv 1) (pe_un un_neg pe_int) (fun _ _ => rfl)) (pa_cons (pe_callTy call_tupOf (by rfl) B.tuple (by decide +kernel) (pa_cons (pv 4) pa_nil)) pa_nil)))))
              (pss_cons (ps_set (i := 3) nd rfl (.inl rfl) (pe_call GW hr rfl DW.g DW.F.kp DW.b .nil pass0 (pa_cons (pv 0) (pa_cons (pv 2) pa_nil))))
                (pss_one (ps_expr (pe_bm PySem.F.plainAttrs_list PySem.F.slot_list_append PySem.F.type_list_append mt_append (pe_ix ix_list (pv 1) (pe_un un_neg pe_int) (fun _ _ => rfl)) (pa_cons (pe_slice sl_str (pv 0) (po_some (pv 2)) (po_some (pv 3))) pa_nil))))))))
        (pss_one (ps_set (i := 2) nd rfl (.inl rfl) (pe_call GR hr1 rfl DR.g DR.F.kp DR.b .nil pass0 (pa_cons (pv 0) (pa_cons (pv 3) (pa_cons (pe_glob (v := .str " \n") rfl eB ⟨_, rfl⟩) pa_nil))))))))))
      (pss_cons (ps_if (PW.pt (pw_or (pt_cmpR op_gt (pe_callB call_len_seq (by rfl) B.len PySem.boot_len (pa_cons (pv 1) pa_nil)) pe_int (nomark _))
          (pw_or1 (pt_cmpR op_eq (pe_callB call_len_seq (by rfl) B.len PySem.boot_len (pa_cons (pe_ix ix_list (pv 1) pe_int (fun _ _ => rfl)) pa_nil)) pe_int (nomark _))))) pss_never pss_nil)
      (pss_one (ps_ret (pe_ix ix_list (pe_ix ix_list (pv 1) pe_int (fun _ _ => rfl)) pe_int (fun _ _ => rfl))))))), ?_⟩
    -- opened = [[]]
    refine ⟨Nat.zero_le _, fun l0 hl0 => ⟨(by show 1 ≤ sizeLine; decide), fun p hp => ?_⟩⟩
    have npl : p ≠ l0 := fun q => by rw [q, upd_same] at hp; cases hp
    have hp0 : H p = none := by rw [upd_ne npl] at hp; exact hp
    have R0 : RdAt K H (upd (upd H l0 (.lst [])) p (.lst [.ref l0])) p [l0] [[]] :=
      ⟨((Same.refl H).upd hl0).upd hp0, hp0, upd_same, by simpa using npl, by simp, .cons hl0 (by rw [upd_ne npl.symm, upd_same]) .nil .nil⟩
    -- at = behind_run(text, 0, BETWEEN)
    refine ⟨_, rfl, z, betw, 0, rfl, (by omega), Nat.zero_le _, ?_⟩
    rw [List.drop_zero, Nat.zero_add]
    obtain ⟨hl1, hw1⟩ := runLen_ws hlx
    have hrl := runLen_le betw.cps.toList z.cps.toList
    rw [len_toList] at hrl
    refine ⟨fun m σ H' => ∃ (n : Nat) (ls : List Addr) (S : Opn) (ts : List Tok) (v3 v4 : Option V), σ = [some (.str z), some (.ref p), some (.int (n : Int)), v3, v4] ∧ RdAt K H H' p ls S ∧ n ≤ z.length ∧ m = z.length - n ∧
      Lx (z.cps.toList.drop n) ts ∧ (∀ c r, z.cps.toList.drop n = c :: r → isWs c = false) ∧ Rn S ts t ∧ cntS S ≤ n + 1, ⟨_, _, [l0], [[]], t.toks, none, none, rfl, R0, hrl, rfl, hl1, hw1, rn_of t, by simp [cntS]⟩, ?_⟩
    rintro m σ H' ⟨n, ls, S, ts, v3, v4, rfl, R, hn, rfl, hl, hw, hrn, hcnt⟩
    have hlen := R.op.length
    have hSlen : S.length ≤ cntS S := Nat.le_add_left _ _
    have hpl : SqL K H' p (ls.map V.ref).reverse := SqL.of R.pl
    have hpll : (ls.map V.ref).reverse.length = S.length := by simp [hlen]
    refine ⟨_, rfl, _, rfl, z, rfl, (by omega), _, _, rfl, rfl, _, rfl, ?_⟩
    by_cases hlt : n < z.length
    · rw [decide_eq_true (show (n : Int) < (z.length : Int) by omega)]
      refine iteT ?_
      obtain ⟨c, r, hd⟩ : ∃ c r, z.cps.toList.drop n = c :: r := by
        cases e : z.cps.toList.drop n with
        | nil =>
          have := congrArg List.length e
          rw [List.length_drop, len_toList] at this
          simp at this
          omega
        | cons c r => exact ⟨c, r, rfl⟩
      obtain ⟨hg, _, hd1⟩ := drop_get hd
      have hwc := hw c r hd
      refine ⟨fun σ' H1 => ∃ (n' : Nat) (ls : List Addr) (S : Opn) (ts : List Tok) (v3 v4 : Option V), σ' = [some (.str z), some (.ref p), some (.int (n' : Int)), v3, v4] ∧ RdAt K H H1 p ls S ∧ n' ≤ z.length ∧ n < n' ∧
        Lx (z.cps.toList.drop n') ts ∧ (∀ c r, z.cps.toList.drop n' = c :: r → isWs c = false) ∧ Rn S ts t ∧ cntS S ≤ n' + 1, ?_, ?_⟩
      · rintro σ' H1 ⟨n', ls', S', ts', a3, a4, rfl, R', h1, h2, h3, h4, h5, h6⟩
        exact ⟨z.length - n', by omega, n', ls', S', ts', a3, a4, rfl, R', h1, rfl, h3, h4, h5, h6⟩
      -- end = at + 1
      refine ⟨_, rfl, _, _, rfl, rfl, ?_⟩
      -- the end of a turn: at = behind_run(text, end, BETWEEN)
      have fin : ∀ (e : Nat) (ls' : List Addr) (S' : Opn) (ts' : List Tok) (v4 : Option V) (H1 : Hp), RdAt K H H1 p ls' S' → n < e → e ≤ z.length → Lx (z.cps.toList.drop e) ts' → Rn S' ts' t → cntS S' ≤ n + 2 →
          ∃ (v0 : V), [some (V.str z), some (.ref p), some (.int (n : Int)), some (.int (e : Int)), v4][0]? = some (some v0) ∧ ∃ (v1 : V), [some (V.str z), some (.ref p), some (.int (n : Int)), some (.int (e : Int)), v4][3]? = some (some v1) ∧
            spBehindRun [v0, v1, .str " \n"] H1 (fun x H1 => ∃ (n' : Nat) (ls : List Addr) (S : Opn) (ts : List Tok) (v3 v4' : Option V), [some (V.str z), some (.ref p), some x, some (.int (e : Int)), v4] = [some (.str z), some (.ref p), some (.int (n' : Int)), v3, v4'] ∧ RdAt K H H1 p ls S ∧ n' ≤ z.length ∧ n < n' ∧
              Lx (z.cps.toList.drop n') ts ∧ (∀ c r, z.cps.toList.drop n' = c :: r → isWs c = false) ∧ Rn S ts t ∧ cntS S ≤ n' + 1) E0 := by
        intro e ls' S' ts' v4 H1 R' h1 h2 h3 h4 h5
        refine ⟨_, rfl, _, rfl, z, betw, e, rfl, by omega, h2, ?_⟩
        obtain ⟨q1, q2⟩ := runLen_ws h3
        have hrl := runLen_le betw.cps.toList (z.cps.toList.drop e)
        rw [List.length_drop, len_toList] at hrl
        rw [List.drop_drop] at q1 q2
        exact ⟨e + runLen betw.cps.toList (z.cps.toList.drop e), ls', S', ts', _, _, rfl, R', by omega, by omega, q1, q2, h4, by omega⟩
      -- len(opened) == 1 and len(opened[0]) > 0 is not so
      refine ⟨_, rfl, p, _, rfl, .inl hpl, rfl, _, rfl, ?_⟩
      have hX : ∃ X S', S = X :: S' ∧ (S' = [] → X = []) := by
        cases hrn with
        | fin =>
          rw [hd] at hl
          generalize he : c :: r = l at hl
          cases hl with
          | nil => cases he
          | ws h _ => injection he with e1 _; subst e1; rw [hwc] at h; cases h
        | op h _ => exact ⟨_, _, rfl, fun e => h.resolve_left fun z => z e⟩
        | cl _ => exact ⟨_, _, rfl, fun e => nomatch e⟩
        | wd h _ => exact ⟨_, _, rfl, fun e => h.resolve_left fun z => z e⟩
      obtain ⟨X, S', rfl, hXS⟩ := hX
      obtain ⟨Rs, Rp0, Rpl, Rnp, Rnd, Rop⟩ := R
      cases Rop with
      | @cons l ls' _ _ vs hl0' hlv hrep hop =>
      have hvl := hrep.length
      have hcX : X.length ≤ cntS (X :: S') := by simp [cntS]; omega
      have npl' : p ≠ l := fun q => Rnp (by rw [q]; exact List.mem_cons_self)
      have nlls : l ∉ ls' := (List.nodup_cons.mp Rnd).1
      have npls : p ∉ ls' := fun q => Rnp (List.mem_cons_of_mem _ q)
      have hlls : ls'.length = S'.length := hop.length
      refine ite_both (fun h1 => ?_) (fun h1 => ?_)
      have hS' : S' = [] := by
        have h1 := of_decide_eq_true h1
        injection h1 with h1
        rw [List.length_reverse, List.length_map, List.length_cons] at h1
        exact List.length_eq_zero_iff.mp (by omega)
      have hls' : ls' = [] := List.length_eq_zero_iff.mp (by rw [hlls, hS']; rfl)
      have hvs : vs = [] := List.length_eq_zero_iff.mp (by rw [hvl, hXS hS']; rfl)
      refine ⟨_, rfl, p, _, _, _, rfl, rfl, hpl, (by rw [hls']; rfl : atI ((l :: ls').map V.ref).reverse 0 = some (V.ref l)), l, _, rfl, .inl (SqL.of hlv), _, _, rfl, rfl, _, rfl, ?_⟩
      rw [decide_eq_false (show ¬ ((0 : Int) < ((vs.length : Nat) : Int)) by rw [hvs]; decide)]
      clear hS' hls' hvs
      all_goals clear h1
      all_goals refine iteF ?_
      all_goals (
        refine ⟨_, rfl, _, rfl, z, (n : Int), c, rfl, rfl, by omega, by omega, by omega, by rw [Int.toNat_natCast]; exact cps_get.mpr hg, rfl, _, rfl, ?_⟩
        rw [one_op, dec_one]
        rw [hd] at hl
        by_cases h40 : c = 40
        · -- "("
          subst h40
          rw [decide_eq_true rfl]
          generalize he : (40 : Nat) :: r = l' at hl
          cases hl with
          | nil => cases he
          | ws h _ => injection he with e1 _; subst e1; cases h
          | cl _ => cases he
          | wd hx _ _ =>
            obtain ⟨d, xr, ex, hdl⟩ := hx.first
            rw [ex, List.cons_append] at he
            injection he with e1 _
            subst e1
            cases hdl
          | op hl2 =>
          injection he with _ e2
          subst e2
          cases hrn with
          | op hc hrn2 =>
          refine iteT ⟨_, rfl, .inl ⟨rfl, _, hpl⟩, Nat.zero_le _, fun q hq => ?_⟩
          have npq : p ≠ q := ne_of_none Rpl hq
          have hq0 : H q = none := Rs.free hq
          have nlq : ∀ l1 ∈ l :: ls', l1 ≠ q := fun l1 h1 e => by
            subst e
            rcases List.mem_cons.mp h1 with rfl | h1
            · rw [hlv] at hq; cases hq
            · obtain ⟨_, vs', e'⟩ := hop.some _ h1
              rw [e'] at hq; cases hq
          refine ⟨p, _, _, rfl, rfl, (by rw [upd_ne npq]; exact Rpl), (by rw [List.length_reverse, List.length_map, List.length_cons, hlls]; have := hSlen; rw [List.length_cons] at this; omega), ?_⟩
          refine fin (n + 1) (q :: l :: ls') ([] :: X :: S') _ _ _ ⟨((Rs.upd hq0).upd Rp0), Rp0, ?_, ?_, ?_, ?_⟩ (by omega) (by omega) (by rw [hd1]; exact hl2) hrn2 (by simp [cntS] at hcnt ⊢; omega)
          · rw [upd_same]; simp
          · intro hm
            rcases List.mem_cons.mp hm with e | hm
            · exact npq e
            · exact Rnp hm
          · exact List.nodup_cons.mpr ⟨fun hm => nlq q hm rfl, Rnd⟩
          · have tt : Tups H' (upd (upd H' q (.lst [])) p (.lst (((l :: ls').map V.ref).reverse ++ [.ref q]))) :=
              Tups.trans (same_upd hq).tups (Tups.upd (u := .lst ((l :: ls').map V.ref).reverse) (by rw [upd_ne npq]; exact Rpl) trivial)
            have kk : ∀ l1 ∈ l :: ls', upd (upd H' q (.lst [])) p (.lst (((l :: ls').map V.ref).reverse ++ [.ref q])) l1 = H' l1 := fun l1 h1 => by
              rw [upd_ne (show l1 ≠ p from fun e => Rnp (by rw [← e]; exact h1)), upd_ne (nlq l1 h1)]
            refine .cons hq0 (by rw [upd_ne npq.symm, upd_same]) .nil (OpnAt.keep (.cons hl0' hlv hrep hop) kk tt)
        · rw [decide_eq_false h40]
          refine iteF ?_
          refine ⟨_, rfl, _, rfl, z, (n : Int), c, rfl, rfl, by omega, by omega, by omega, by rw [Int.toNat_natCast]; exact cps_get.mpr hg, rfl, _, rfl, ?_⟩
          rw [one_cl, dec_one]
          by_cases h41 : c = 41
          · -- ")"
            subst h41
            rw [decide_eq_true rfl]
            generalize he : (41 : Nat) :: r = l' at hl
            cases hl with
            | nil => cases he
            | ws h _ => injection he with e1 _; subst e1; cases h
            | op _ => cases he
            | wd hx _ _ =>
              obtain ⟨d, xr, ex, hdl⟩ := hx.first
              rw [ex, List.cons_append] at he
              injection he with e1 _
              subst e1
              cases hdl
            | cl hl2 =>
            injection he with _ e2
            subst e2
            cases hrn with
            | @cl _ Y S2 _ _ hrn2 =>
            cases hop with
            | @cons l2 ls2 _ _ vs2 hl20 hlv2 hrep2 hop2 =>
            have hv2l := hrep2.length
            have npl2 : p ≠ l2 := fun q => npls (by rw [q]; exact List.mem_cons_self)
            have nll2 : l ≠ l2 := fun q => nlls (by rw [q]; exact List.mem_cons_self)
            have nl2 : l2 ∉ ls2 := (List.nodup_cons.mp (List.nodup_cons.mp Rnd).2).1
            refine iteT ⟨_, rfl, p, _, rfl, .inl hpl, _, _, rfl, rfl, _, rfl, ?_⟩
            rw [decide_eq_true (show (1 : Int) < ((((l :: l2 :: ls2).map V.ref).reverse.length : Nat) : Int) by simp; omega)]
            -- items = opened.pop()
            refine iteT ⟨_, rfl, .inl ⟨rfl, _, hpl⟩, p, _, _, rfl, rfl, Rpl, rev_last _ _, ?_⟩
            rw [List.map_cons, dropLast_rev]
            have hp1 : upd H' p (.lst ((l2 :: ls2).map V.ref).reverse) p = some (.lst ((l2 :: ls2).map V.ref).reverse) := upd_same
            have hl1 : upd H' p (.lst ((l2 :: ls2).map V.ref).reverse) l = some (.lst vs) := by rw [upd_ne npl'.symm]; exact hlv
            have hl21 : upd H' p (.lst ((l2 :: ls2).map V.ref).reverse) l2 = some (.lst vs2) := by rw [upd_ne npl2.symm]; exact hlv2
            have tt1 : Tups H' (upd H' p (.lst ((l2 :: ls2).map V.ref).reverse)) := Tups.upd Rpl trivial
            -- opened[-1].append(tuple(items))
            refine ⟨_, rfl, _, rfl, p, _, _, _, rfl, rfl, SqL.of hp1, atI_revlast _ _, .inl ⟨rfl, _, SqL.of hl21⟩, _, rfl, l, vs, rfl, SqL.of hl1, fun tp H2 sm hT => ?_⟩
            have hYc : Y.length ≤ cntS (X :: Y :: S2) := by simp [cntS]; omega
            refine ⟨l2, vs2, _, rfl, rfl, sm _ _ hl21, (by rw [hv2l]; omega), ?_⟩
            have tt2 : Tups H' (upd H2 l2 (.lst (vs2 ++ [.ref tp]))) := (tt1.trans sm.tups).trans (Tups.upd (sm _ _ hl21) trivial)
            have hS1 : Same H H2 := (Rs.upd Rp0).trans sm
            refine fin (n + 1) (l2 :: ls2) ((Y ++ [.l X]) :: S2) _ _ _ ⟨hS1.upd hl20, Rp0, ?_, npls, (List.nodup_cons.mp Rnd).2, ?_⟩ (by omega) (by omega) (by rw [hd1]; exact hl2) hrn2 (by simp [cntS] at hcnt ⊢; omega)
            · rw [upd_ne npl2]; exact sm _ _ hp1
            · have sub : Reps K (upd H2 l2 (.lst (vs2 ++ [.ref tp]))) (Y ++ [.l X]) (vs2 ++ [.ref tp]) :=
                (hrep2.tups tt2).snoc (Rep.l (hT.tups (Tups.upd (sm _ _ hl21) trivial)) (hrep.tups tt2))
              refine .cons hl20 upd_same sub (hop2.keep (fun l3 h3 => ?_) tt2)
              have n32 : l3 ≠ l2 := fun e => nl2 (e ▸ h3)
              obtain ⟨_, vs3, e3⟩ := hop2.some _ h3
              have n3p : l3 ≠ p := fun e => npls (by rw [← e]; exact List.mem_cons_of_mem _ h3)
              rw [upd_ne n32, e3]
              exact sm _ _ (by rw [upd_ne n3p]; exact e3)
          · -- a word
            rw [decide_eq_false h41]
            refine iteF (iteF ?_)
            generalize he : c :: r = l' at hl
            cases hl with
            | nil => cases he
            | ws h _ => injection he with e1 _; subst e1; rw [hwc] at h; cases h
            | op _ => injection he with e1 _; exact absurd e1 h40
            | cl _ => injection he with e1 _; exact absurd e1 h41
            | @wd x cs ts' hx hcs hl2 =>
            cases hrn with
            | wd hc hrn2 =>
            rw [he] at hd
            have hxn : x.cps.toList ≠ [] := by obtain ⟨d, xr, ex, _⟩ := hx.first; rw [ex]; simp
            have hxl : 0 < x.length := by rw [← len_toList]; exact List.length_pos_iff.mpr hxn
            have hle : n + x.length ≤ z.length := by
              have h1 := congrArg List.length hd
              rw [List.length_drop, List.length_append, len_toList, len_toList] at h1
              omega
            refine ⟨_, rfl, _, rfl, z, n, x, cs, rfl, hz, hd, hx, hcs, ?_⟩
            refine ⟨_, rfl, _, rfl, p, _, _, _, rfl, rfl, hpl, atI_revlast _ _, .inl ⟨rfl, _, SqL.of hlv⟩, _, rfl, _, rfl, _, rfl, _, rfl, _, rfl, z, rfl, (by omega), ?_⟩
            rw [cut_word hd hxn]
            refine ⟨l, vs, _, rfl, rfl, hlv, (by rw [hvl]; omega), ?_⟩
            have tt : Tups H' (upd H' l (.lst (vs ++ [.str x]))) := Tups.upd hlv trivial
            refine fin (n + x.length) (l :: ls') ((X ++ [.w x]) :: S') ts' _ _ ⟨Rs.upd hl0', Rp0, by rw [upd_ne npl']; exact Rpl, Rnp, Rnd, ?_⟩ (by omega) hle ?_ hrn2 (by simp [cntS] at hcnt ⊢; omega)
            · refine .cons hl0' upd_same ((hrep.tups tt).snoc .w) (hop.keep (fun l3 h3 => upd_ne fun e => nlls (e ▸ h3)) tt)
            · rw [← List.drop_drop, hd]
              have : (x.cps.toList ++ cs).drop x.length = cs := by rw [← len_toList, List.drop_left']; rfl
              rw [this]
              exact hl2)
    · -- the end
      rw [decide_eq_false (show ¬ ((n : Int) < (z.length : Int)) by omega)]
      refine iteF ?_
      have hdn : z.cps.toList.drop n = [] := List.drop_eq_nil_of_le (by rw [len_toList]; omega)
      rw [hdn] at hl
      generalize he : ([] : List Nat) = l' at hl
      have hts : ts = [] := by
        cases hl with
        | nil => rfl
        | ws _ _ => cases he
        | op _ => cases he
        | cl _ => cases he
        | wd hx _ _ =>
          obtain ⟨d, xr, ex, _⟩ := hx.first
          rw [ex] at he
          cases he
      subst hts
      cases hrn with
      | fin =>
      obtain ⟨Rs, Rp0, Rpl, Rnp, Rnd, Rop⟩ := R
      cases Rop with
      | @cons l ls' _ _ vs hl0' hlv hrep hop =>
      cases hop
      obtain ⟨v, r, hv, hrv, hr0⟩ := hrep.cons_eq
      have hr00 := hr0.nil_eq
      subst hr00
      subst hv
      refine ⟨_, rfl, p, _, rfl, .inl hpl, _, _, rfl, rfl, _, rfl, ?_⟩
      rw [decide_eq_false (show ¬ ((1 : Int) < ((([l].map V.ref).reverse.length : Nat) : Int)) by simp)]
      refine iteF ⟨_, rfl, p, _, _, _, rfl, rfl, hpl, rfl, l, _, rfl, .inl (SqL.of hlv), rfl, _, rfl, ?_⟩
      rw [decide_eq_false (show ¬ V.int ((([v] : List V).length : Nat) : Int) = V.int 0 from fun e => by injection e with e; cases e)]
      refine iteF ?_
      refine ⟨_, rfl, p, _, _, _, rfl, rfl, hpl, rfl, l, _, _, _, rfl, rfl, SqL.of hlv, rfl, ?_⟩
      exact k v H' Rs hrv
end
end K46
/-! texts: write_value. -/
namespace K46
open PySem PySem.Spec PyProof.Rows L2

/-! ### what is still to be written -/
inductive Wt where
  | v (t : T)
  | x (s : Str)
def Wt.rend : Wt → List Nat
  | .v t => t.txt
  | .x s => s.cps.toList
mutual
def T.it : T → Nat
  | .w _ => 1
  | .l ts => 2 + itL ts
def itL : List T → Nat
  | [] => 0
  | t :: ts => T.it t + 1 + itL ts
end
def Wt.wt : Wt → Nat
  | .v t => t.it
  | .x _ => 1
def wts (ws : List Wt) : Nat := (ws.map Wt.wt).sum
def rends (ws : List Wt) : List Nat := ws.flatMap Wt.rend
theorem it_pos (t : T) : 1 ≤ t.it := by cases t <;> simp [T.it]; omega
theorem wt_pos (a : Wt) : 1 ≤ a.wt := by cases a with | v t => exact it_pos t | x s => exact Nat.le_refl _
theorem wts_len (ws : List Wt) : ws.length ≤ wts ws := by
  induction ws with
  | nil => exact Nat.le_refl _
  | cons a ws ih =>
    have := wt_pos a
    simp only [wts, List.map_cons, List.sum_cons, List.length_cons] at ih ⊢
    omega
mutual
theorem it_size : ∀ t : T, t.it + 1 ≤ 4 * t.size
  | .w _ => by simp [T.it, T.size]
  | .l ts => by
    have := itL_size ts
    simp only [T.it, T.size]
    omega
theorem itL_size : ∀ ts : List T, itL ts + 4 ≤ 4 * sizeL ts
  | [] => by simp [itL, sizeL]
  | t :: ts => by
    have h1 := it_size t
    have h2 := itL_size ts
    simp only [itL, sizeL]
    omega
end
def pushR : List T → List Wt
  | [] => []
  | u :: us => .x " " :: .v u :: pushR us
def pushL : List T → List Wt
  | [] => []
  | u :: us => .v u :: pushR us
theorem rend_sp : (Wt.x " ").rend = [32] := by decide +kernel
theorem rend_cl : (Wt.x ")").rend = [41] := by decide +kernel
theorem rends_pushR : ∀ us : List T, rends (pushR us) = txtR us
  | [] => rfl
  | u :: us => by
    have ih := rends_pushR us
    simp only [rends, pushR, List.flatMap_cons] at ih ⊢
    rw [rend_sp, ih]
    simp [Wt.rend, txtR]
theorem rends_pushL (us : List T) : rends (pushL us) = txtL us := by
  cases us with
  | nil => rfl
  | cons u us =>
    have ih := rends_pushR us
    simp only [rends, pushL, List.flatMap_cons] at ih ⊢
    rw [ih]
    simp [Wt.rend, txtL]
theorem wts_pushR : ∀ us : List T, wts (pushR us) = itL us
  | [] => rfl
  | u :: us => by
    have ih := wts_pushR us
    simp only [wts, pushR, List.map_cons, List.sum_cons] at ih ⊢
    rw [ih]
    simp only [Wt.wt, itL]
    omega
theorem wts_pushL (us : List T) : wts (pushL us) ≤ itL us := by
  cases us with
  | nil => exact Nat.le_refl _
  | cons u us =>
    have ih := wts_pushR us
    simp only [wts, pushL, List.map_cons, List.sum_cons] at ih ⊢
    rw [ih]
    simp only [Wt.wt, itL]
    omega
/-- a piece that waits, as a pair -/
def WtAt (K : PySem.W.Frag) (H : Hp) : Wt → V → Prop
  | .v t, u => ∃ a y, u = .ref a ∧ SqT K H a [y, .bl false] ∧ Rep K H t y
  | .x s, u => ∃ a, u = .ref a ∧ SqT K H a [.str s, .bl true]
theorem WtAt.tups {K : PySem.W.Frag} {H H' : Hp} {a : Wt} {u : V} (h : WtAt K H a u) (t : Tups H H') : WtAt K H' a u := by
  cases a with
  | v t' => obtain ⟨p, y, e, q, r⟩ := h; exact ⟨p, y, e, q.tups t, r.tups t⟩
  | x s => obtain ⟨p, e, q⟩ := h; exact ⟨p, e, q.tups t⟩
abbrev WtsAt (K : PySem.W.Frag) (H : Hp) : List Wt → List V → Prop := Paired (WtAt K H)
theorem wtsTups {K : PySem.W.Frag} {H H' : Hp} {ws : List Wt} {us : List V} (h : WtsAt K H ws us) (t : Tups H H') : WtsAt K H' ws us := Paired.mapP h fun _ _ q => q.tups t
theorem join_empty (ys : List Str) : (Txt.join ("" : Str) ys).cps.toList = ys.flatMap (fun y => y.cps.toList) := by
  have e : Txt.join ("" : Str) ys = Str.join ("" : Str) ys := by
    have := PyProof.Rows.join_closes (sep := "") (sep' := "") (ys := ys) rfl
    exact eq_of_beq this
  rw [e]
  have key : ∀ ys : List Str, (Str.join ("" : Str) ys).cps.toList = ys.flatMap (fun y => y.cps.toList) := by
    intro ys
    induction ys with
    | nil => rfl
    | cons y ys ih =>
      cases ys with
      | nil => simp [Str.join]
      | cons z ys =>
        show (y ++ ("" : Str) ++ Str.join ("" : Str) (z :: ys)).cps.toList = _
        have e1 : (y ++ ("" : Str) ++ Str.join ("" : Str) (z :: ys)).cps.toList = y.cps.toList ++ ("" : Str).cps.toList ++ (Str.join ("" : Str) (z :: ys)).cps.toList := by
          show ((y.cps ++ ("" : Str).cps) ++ (Str.join ("" : Str) (z :: ys)).cps).toList = _
          rw [Array.toList_append, Array.toList_append]
        have e2 : ("" : Str).cps.toList = [] := by decide +kernel
        rw [e1, e2, ih, List.append_nil, List.flatMap_cons, List.flatMap_cons, List.flatMap_cons]
  exact key ys
theorem sum_flat (ys : List Str) : (ys.map (·.length)).sum = (ys.flatMap (fun y => y.cps.toList)).length := by
  induction ys with
  | nil => rfl
  | cons y ys ih => rw [List.map_cons, List.sum_cons, ih, List.flatMap_cons, List.length_append, len_toList]
def spWrite (K : PySem.W.Frag) : L2.Sp := fun vs H Q _ => ∃ (t : T) (v : V), vs = [v] ∧ Rep K H t v ∧ t.size ≤ 100000 ∧ t.txt.length ≤ 10000000 ∧ ∀ (z : Str) (H' : Hp), Same H H' → z.cps.toList = t.txt → Q (.str z) H'
abbrev sWrite : Stmt := top 13
theorem sc_sWrite : FnScope ["value", "pieces", "waiting", "one", "is_text", "at"] ["value"] (defScope sWrite) := ⟨rfl, rfl, rfl, by decide +kernel, rfl, by decide +kernel, by decide +kernel⟩
section
variable {P : Program} {w : World} {K : PySem.W.Frag} {mg : Str → Option Value} {base : Heap}
theorem ok_write {f : Addr} {fd : FuncData} (B : Bl mg) (D : Dfn K mg "write_value" sWrite ["value"] f fd) : FnOk P w K mg base CX0 1 f fd ["value"] (spWrite K) := by
  refine D.F.ok sc_sWrite (fun vs H Q E h => ?_) (fun cdv A outer s H vs Q E hr h => ?_)
  · obtain ⟨t, v, rfl, _⟩ := h
    rfl
  · obtain ⟨t, v, rfl, hrep, hsz, htx, k⟩ := h
    have nd := sc_sWrite.nd
    have hs : sizeLine = 16777216 := rfl
    refine ⟨_,
      (pss_cons (ps_set (i := 1) nd rfl (.inl rfl) (pe_lst pa_nil))
      (pss_cons (ps_set (i := 2) nd rfl (.inl rfl) (pe_lst (pa_cons (pe_tup (pa_cons (pv 0) (pa_cons pe_bl pa_nil))) pa_nil)))
      (pss_cons (ps_while PassesOwn.never (pt_cmpR op_gt (pe_callB call_len_seq (by rfl) B.len PySem.boot_len (pa_cons (pv 2) pa_nil)) pe_int (nomark _))
      (pss_cons (ps_asg (pe_bm0 PySem.F.plainAttrs_list PySem.F.slot_list_pop PySem.F.type_list_pop mt_pop (pv 2)) (pg_tup (by rfl) (pgs_cons (pg_name (i := 3) nd rfl (.inl rfl)) (pgs_cons (pg_name (i := 4) nd rfl (.inl rfl)) pgs_nil))))
      (pss_one (ps_if (PW.pt (pw_or (pt_val (pv 4)) (pw_or1 (pt_val (pe_callB call_isStr (by rfl) B.isinstance PyProof.Rows.boot_isinstance (pa_cons (pv 3) (pa_cons (pe_bltn (v := .ty "str") (by rfl) B.str PyProof.Rows.boot_str rfl) pa_nil)))))))
      (pss_one (ps_expr (pe_bm PySem.F.plainAttrs_list PySem.F.slot_list_append PySem.F.type_list_append mt_append (pv 1) (pa_cons (pv 3) pa_nil))))
      (pss_cons (ps_expr (pe_bm PySem.F.plainAttrs_list PySem.F.slot_list_append PySem.F.type_list_append mt_append (pv 1) (pa_cons pe_str pa_nil)))
      (pss_cons (ps_expr (pe_bm PySem.F.plainAttrs_list PySem.F.slot_list_append PySem.F.type_list_append mt_append (pv 2) (pa_cons (pe_tup (pa_cons pe_str (pa_cons pe_bl pa_nil))) pa_nil)))
      (pss_one (ps_for PassesOwn.never rfl (pi_revR (by rfl) B.reversed (prg_1 (by rfl) B.range (pe_callB call_len_seq (by rfl) B.len PySem.boot_len (pa_cons (pv 3) pa_nil)))) (pg_name (i := 5) nd rfl (.inl rfl))
      (pss_cons (ps_expr (pe_bm PySem.F.plainAttrs_list PySem.F.slot_list_append PySem.F.type_list_append mt_append (pv 2) (pa_cons (pe_tup (pa_cons (pe_ix ix_tup (pv 3) (pv 5) (fun _ _ => rfl)) (pa_cons pe_bl pa_nil))) pa_nil)))
      (pss_one (ps_if (pt_cmpR op_gt (pv 5) pe_int (nomark _))
      (pss_one (ps_expr (pe_bm PySem.F.plainAttrs_list PySem.F.slot_list_append PySem.F.type_list_append mt_append (pv 2) (pa_cons (pe_tup (pa_cons pe_str (pa_cons pe_bl pa_nil))) pa_nil))))
      pss_nil)))))))))))
      (pss_one (ps_ret (pe_join pe_str (pv 1)))))))
      , ?_⟩
    refine ⟨Nat.zero_le _, fun p1 hp1 => ?_⟩
    refine ⟨_, rfl, (by show 2 ≤ sizeLine; decide), fun q hq => ⟨(by show 1 ≤ sizeLine; decide), fun p2 hp2 => ?_⟩⟩
    have n12 : p1 ≠ p2 := fun e => by rw [← e, upd_ne (ne_of_none upd_same hq), upd_same] at hp2; cases hp2
    have n1q : p1 ≠ q := ne_of_none upd_same hq
    have nq2 : q ≠ p2 := fun e => by rw [← e, upd_same] at hp2; cases hp2
    have hq0 : H q = none := by rw [upd_ne n1q.symm] at hq; exact hq
    have hp20 : H p2 = none := by rw [upd_ne nq2.symm, upd_ne n12.symm] at hp2; exact hp2
    have S0 : Same H (upd (upd (upd H p1 (.lst [])) q (.tup [v, .bl false])) p2 (.lst [.ref q])) := (((Same.refl H).upd hp1).upd hq0).upd hp20
    refine ⟨fun m σ H' => ∃ (ws : List Wt) (us : List V) (ss : List Str) (v3 v4 v5 : Option V), σ = [some v, some (.ref p1), some (.ref p2), v3, v4, v5] ∧ Same H H' ∧ H' p1 = some (.lst (ss.map V.str)) ∧ H' p2 = some (.lst us.reverse) ∧ WtsAt K H' ws us ∧
      ss.flatMap (fun y => y.cps.toList) ++ rends ws = t.txt ∧ ss.length + wts ws ≤ t.it ∧ m = wts ws, ⟨_, [.v t], [.ref q], [], none, none, none, rfl, S0, ?_, upd_same, ?_, ?_, ?_, rfl⟩, ?_⟩
    · rw [upd_ne n12, upd_ne n1q, upd_same]; rfl
    · exact .cons ⟨q, v, rfl, SqT.of (by rw [upd_ne nq2, upd_same]), hrep.same S0⟩ .nil
    · simp [rends, Wt.rend]
    · simp [wts, Wt.wt]
    have hit := it_size t
    rintro m σ H' ⟨ws, us, ss, v3, v4, v5, rfl, S, h1, h2, hw, htxt, hcnt, rfl⟩
    have hul := Paired.length hw
    have hwl := wts_len ws
    refine ⟨_, rfl, p2, _, rfl, .inl (SqL.of h2), _, _, rfl, rfl, _, rfl, ?_⟩
    cases hw with
    | nil =>
      rw [decide_eq_false (show ¬ ((0 : Int) < ((([] : List V).reverse.length : Nat) : Int)) by decide)]
      refine iteF ?_
      refine ⟨⟨_, rfl⟩, _, rfl, "", p1, ss, rfl, rfl, .inl (SqL.of h1), ?_, ?_⟩
      · rw [sum_flat]
        have e0 : ("" : Str).length = 0 := rfl
        rw [e0, Nat.mul_zero, Nat.add_zero]
        have := congrArg List.length htxt
        simp only [rends, List.flatMap_nil, List.append_nil] at this
        omega
      · refine k _ H' S ?_
        rw [join_empty]
        simpa [rends] using htxt
    | @cons a u ws us hau hw =>
      rw [decide_eq_true (show (0 : Int) < (((u :: us).reverse.length : Nat) : Int) by simp)]
      refine iteT ?_
      refine ⟨fun σ' H1 => ∃ (ws' : List Wt) (us' : List V) (ss' : List Str) (v3 v4 v5 : Option V), σ' = [some v, some (.ref p1), some (.ref p2), v3, v4, v5] ∧ Same H H1 ∧ H1 p1 = some (.lst (ss'.map V.str)) ∧ H1 p2 = some (.lst us'.reverse) ∧ WtsAt K H1 ws' us' ∧
        ss'.flatMap (fun y => y.cps.toList) ++ rends ws' = t.txt ∧ ss'.length + wts ws' ≤ t.it ∧ wts ws' < wts (a :: ws), ?_, ?_⟩
      · rintro σ' H1 ⟨ws', us', ss', a3, a4, a5, rfl, b1, b2, b3, b4, b5, b6, b7⟩
        exact ⟨_, b7, ws', us', ss', a3, a4, a5, rfl, b1, b2, b3, b4, b5, b6, rfl⟩
      have hwts : wts (a :: ws) = a.wt + wts ws := by simp [wts]
      have hrd : rends (a :: ws) = a.rend ++ rends ws := by simp [rends]
      have hap := wt_pos a
      rw [hwts] at hcnt
      rw [hrd] at htxt
      refine ⟨_, rfl, .inl ⟨rfl, _, SqL.of h2⟩, p2, _, _, rfl, rfl, h2, rev_last _ _, ?_⟩
      rw [dropLast_rev]
      have tt : Tups H' (upd H' p2 (.lst us.reverse)) := Tups.upd h2 trivial
      have S1 : Same H (upd H' p2 (.lst us.reverse)) := S.upd hp20
      have g1 : upd H' p2 (.lst us.reverse) p1 = some (.lst (ss.map V.str)) := by rw [upd_ne n12]; exact h1
      have g2 : upd H' p2 (.lst us.reverse) p2 = some (.lst us.reverse) := upd_same
      have gw : WtsAt K (upd H' p2 (.lst us.reverse)) ws us := wtsTups hw tt
      have gau : WtAt K (upd H' p2 (.lst us.reverse)) a u := hau.tups tt
      clear hau hw h1 h2 S
      generalize upd H' p2 (.lst us.reverse) = H2 at *
      -- a piece is written
      have piece : ∀ (s : Str) (b4 : Option V), a.rend = s.cps.toList → ∃ v0, [some v, some (V.ref p1), some (.ref p2), some (.str s), b4, v5][1]? = some (some v0) ∧ tyV K "list" v0 H2 ∧ ∃ v1, [some v, some (V.ref p1), some (.ref p2), some (.str s), b4, v5][3]? = some (some v1) ∧
          rAppend v0 [v1] H2 fun _ H1 => ∃ (ws' : List Wt) (us' : List V) (ss' : List Str) (v3' v4' v5' : Option V), [some v, some (V.ref p1), some (.ref p2), some (.str s), b4, v5] = [some v, some (.ref p1), some (.ref p2), v3', v4', v5'] ∧ Same H H1 ∧ H1 p1 = some (.lst (ss'.map V.str)) ∧ H1 p2 = some (.lst us'.reverse) ∧ WtsAt K H1 ws' us' ∧
        ss'.flatMap (fun y => y.cps.toList) ++ rends ws' = t.txt ∧ ss'.length + wts ws' ≤ t.it ∧ wts ws' < wts (a :: ws) := by
        intro s b4 hs
        refine ⟨_, rfl, .inl ⟨rfl, _, SqL.of g1⟩, _, rfl, p1, _, _, rfl, rfl, g1, (by rw [List.length_map]; omega), ?_⟩
        refine ⟨ws, us, ss ++ [s], _, _, _, rfl, S1.upd hp1, by rw [upd_same]; simp, by rw [upd_ne n12.symm]; exact g2, wtsTups gw (Tups.upd g1 trivial), ?_, ?_, by omega⟩
        · rw [List.flatMap_append, ← htxt, hs]
          simp
        · rw [List.length_append, List.length_singleton]; omega
      cases a with
      | x s =>
        obtain ⟨r, rfl, hT⟩ := gau
        refine ⟨r, _, rfl, hT, rfl, _, _, rfl, _, _, rfl, rfl, ?_⟩
        refine ⟨_, rfl, _, rfl, iteT (iteT ?_)⟩
        exact piece s _ rfl
      | v t' =>
        obtain ⟨r, y, rfl, hT, hr'⟩ := gau
        refine ⟨r, _, rfl, hT, rfl, _, _, rfl, _, _, rfl, rfl, ?_⟩
        refine ⟨_, rfl, _, rfl, iteF ⟨_, rfl, t', y, rfl, hr', _, rfl, ?_⟩⟩
        cases t' with
        | w s =>
          rw [hr'.w_eq]
          exact iteT (piece s _ rfl)
        | l ts =>
          obtain ⟨ya, ys, rfl, hyT, hys⟩ := hr'.l_eq
          have hyl := hys.length
          have hita : (Wt.v (.l ts)).wt = 2 + itL ts := rfl
          have hlsz : ts.length ≤ itL ts := by
            have : ∀ ts : List T, ts.length ≤ itL ts := by
              intro ts
              induction ts with
              | nil => exact Nat.le_refl _
              | cons t ts ih => rw [itL, List.length_cons]; omega
            exact this ts
          refine iteF ?_
          -- pieces.append('(')
          refine ⟨_, rfl, .inl ⟨rfl, _, SqL.of g1⟩, p1, _, _, rfl, rfl, g1, (by rw [List.length_map]; omega), ?_⟩
          have tt1 : Tups H2 (upd H2 p1 (.lst (ss.map V.str ++ [.str "("]))) := Tups.upd g1 trivial
          have S2 : Same H (upd H2 p1 (.lst (ss.map V.str ++ [.str "("]))) := S1.upd hp1
          have k1 : upd H2 p1 (.lst (ss.map V.str ++ [.str "("])) p1 = some (.lst ((ss ++ [("(" : Str)]).map V.str)) := by rw [upd_same]; simp
          have k2 : upd H2 p1 (.lst (ss.map V.str ++ [.str "("])) p2 = some (.lst us.reverse) := by rw [upd_ne n12.symm]; exact g2
          have kw : WtsAt K (upd H2 p1 (.lst (ss.map V.str ++ [.str "("]))) ws us := wtsTups gw tt1
          have kT : SqT K (upd H2 p1 (.lst (ss.map V.str ++ [.str "("]))) ya ys := hyT.tups tt1
          have kr : Reps K (upd H2 p1 (.lst (ss.map V.str ++ [.str "("]))) ts ys := hys.tups tt1
          generalize upd H2 p1 (.lst (ss.map V.str ++ [.str "("])) = H3 at *
          -- waiting.append((')', True))
          refine ⟨_, rfl, .inl ⟨rfl, _, SqL.of k2⟩, (by show 2 ≤ sizeLine; decide), fun b hb => ?_⟩
          have nb2 : p2 ≠ b := ne_of_none k2 hb
          have nb1 : p1 ≠ b := ne_of_none k1 hb
          refine ⟨p2, us.reverse, _, rfl, rfl, (by rw [upd_ne nb2]; exact k2), (by rw [List.length_reverse]; simp only [List.length_cons] at hul hwl; omega), ?_⟩
          have tt2 : Tups H3 (upd (upd H3 b (.tup [.str ")", .bl true])) p2 (.lst (us.reverse ++ [.ref b]))) := Tups.trans (same_upd hb).tups (Tups.upd (u := .lst us.reverse) (by rw [upd_ne nb2]; exact k2) trivial)
          have S3 : Same H (upd (upd H3 b (.tup [.str ")", .bl true])) p2 (.lst (us.reverse ++ [.ref b]))) := (S2.upd (S2.free hb)).upd hp20
          have l1 : upd (upd H3 b (.tup [.str ")", .bl true])) p2 (.lst (us.reverse ++ [.ref b])) p1 = some (.lst ((ss ++ [("(" : Str)]).map V.str)) := by rw [upd_ne n12, upd_ne nb1]; exact k1
          have l2 : upd (upd H3 b (.tup [.str ")", .bl true])) p2 (.lst (us.reverse ++ [.ref b])) p2 = some (.lst (V.ref b :: us).reverse) := by rw [upd_same, List.reverse_cons]
          have lw : WtsAt K (upd (upd H3 b (.tup [.str ")", .bl true])) p2 (.lst (us.reverse ++ [.ref b]))) (.x ")" :: ws) (.ref b :: us) :=
            .cons ⟨b, rfl, SqT.of (by rw [upd_ne nb2.symm, upd_same])⟩ (wtsTups kw tt2)
          have lT := kT.tups tt2
          have lr := kr.tups tt2
          generalize upd (upd H3 b (.tup [.str ")", .bl true])) p2 (.lst (us.reverse ++ [.ref b])) = H4 at *
          -- for at in reversed(range(len(one)))
          have hys0 : (((ys.length : Nat) : Int) - 0).toNat = ys.length := by omega
          refine ⟨_, rfl, ya, _, rfl, .inr lT, _, rfl, by omega, by omega, by omega, by omega, ?_⟩
          rw [hys0]
          refine for_rangeC (Pv := fun i σ' H1 => ∃ (us' : List V) (v5' : Option V), σ' = [some v, some (V.ref p1), some (.ref p2), some (.ref ya), some (.bl false), v5'] ∧ Same H H1 ∧ H1 p1 = some (.lst ((ss ++ [("(" : Str)]).map V.str)) ∧ H1 p2 = some (.lst us'.reverse) ∧
            WtsAt K H1 ((if i = ts.length then pushL ts else pushR (ts.drop (ts.length - i))) ++ .x ")" :: ws) us' ∧ SqT K H1 ya ys ∧ Reps K H1 ts ys ∧ us'.length ≤ us.length + 1 + 2 * i) ?_ ?_ ?_
          · refine ⟨.ref b :: us, v5, rfl, S3, l1, l2, ?_, lT, lr, by rw [List.length_cons]; omega⟩
            by_cases e : 0 = ts.length
            · have : ts = [] := List.length_eq_zero_iff.mp e.symm
              subst this
              exact lw
            · rw [if_neg e, Nat.sub_zero, List.drop_length]
              exact lw
          · rintro i σ' H1 hi ⟨us', v5', rfl, c1, c2, c3, c4, c5, c6, c7⟩
            rw [hyl] at hi
            rw [if_neg (by omega)] at c4
            -- at = n - 1 - i
            have hat : (0 : Int) + (((ys.length : Nat) : Int)) - 1 + ((i : Nat) : Int) * (-1) = ((ts.length - 1 - i : Nat) : Int) := by rw [hyl]; omega
            rw [hat]
            obtain ⟨tk, hk⟩ : ∃ tk, ts[ts.length - 1 - i]? = some tk := ⟨_, List.getElem?_eq_getElem (by omega)⟩
            obtain ⟨yk, hyk, hyr⟩ := c6.get hk
            have hdrop : ts.drop (ts.length - (i + 1)) = tk :: ts.drop (ts.length - i) := by
              have h0 : ts.length - (i + 1) < ts.length := by omega
              rw [List.drop_eq_getElem_cons h0]
              have h1 : ts[ts.length - (i + 1)]? = some tk := by rw [show ts.length - (i + 1) = ts.length - 1 - i by omega]; exact hk
              rw [List.getElem?_eq_getElem h0] at h1
              rw [Option.some.inj h1, show ts.length - (i + 1) + 1 = ts.length - i by omega]
            have hus' : us'.length ≤ 10000000 := by
              have := Paired.length c4
              simp only [List.length_cons] at hul hwl
              omega
            refine ⟨_, rfl, .inl ⟨rfl, _, SqL.of c3⟩, _, rfl, _, rfl, ya, ys, _, _, rfl, rfl, c5, atI_nat hyk, (by show 2 ≤ sizeLine; decide), fun b hb => ?_⟩
            have nb2 : p2 ≠ b := ne_of_none c3 hb
            have nb1 : p1 ≠ b := ne_of_none c2 hb
            refine ⟨p2, us'.reverse, _, rfl, rfl, (by rw [upd_ne nb2]; exact c3), (by rw [List.length_reverse]; omega), ?_⟩
            have tt3 : Tups H1 (upd (upd H1 b (.tup [yk, .bl false])) p2 (.lst (us'.reverse ++ [.ref b]))) := Tups.trans (same_upd hb).tups (Tups.upd (u := .lst us'.reverse) (by rw [upd_ne nb2]; exact c3) trivial)
            have S4 : Same H (upd (upd H1 b (.tup [yk, .bl false])) p2 (.lst (us'.reverse ++ [.ref b]))) := (c1.upd (c1.free hb)).upd hp20
            have d1 : upd (upd H1 b (.tup [yk, .bl false])) p2 (.lst (us'.reverse ++ [.ref b])) p1 = some (.lst ((ss ++ [("(" : Str)]).map V.str)) := by rw [upd_ne n12, upd_ne nb1]; exact c2
            have d2 : upd (upd H1 b (.tup [yk, .bl false])) p2 (.lst (us'.reverse ++ [.ref b])) p2 = some (.lst (V.ref b :: us').reverse) := by rw [upd_same, List.reverse_cons]
            have dw : WtsAt K (upd (upd H1 b (.tup [yk, .bl false])) p2 (.lst (us'.reverse ++ [.ref b]))) (.v tk :: (pushR (ts.drop (ts.length - i)) ++ .x ")" :: ws)) (.ref b :: us') :=
              .cons ⟨b, yk, rfl, SqT.of (by rw [upd_ne nb2.symm, upd_same]), hyr.tups tt3⟩ (wtsTups c4 tt3)
            have dT := c5.tups tt3
            have dr := c6.tups tt3
            generalize upd (upd H1 b (.tup [yk, .bl false])) p2 (.lst (us'.reverse ++ [.ref b])) = H5 at *
            refine ⟨_, rfl, _, _, rfl, rfl, _, rfl, ?_⟩
            by_cases hlast : i + 1 = ts.length
            · rw [decide_eq_false (show ¬ ((0 : Int) < ((ts.length - 1 - i : Nat) : Int)) by omega)]
              refine iteF ⟨.ref b :: us', _, rfl, S4, d1, d2, ?_, dT, dr, by rw [List.length_cons]; omega⟩
              rw [if_pos hlast]
              have e0 : ts = tk :: ts.drop (ts.length - i) := by
                rw [← hdrop, show ts.length - (i + 1) = 0 by omega, List.drop_zero]
              have e1 : pushL ts = .v tk :: pushR (ts.drop (ts.length - i)) := by
                conv => lhs; rw [e0]
                rfl
              rw [e1]
              exact dw
            · rw [decide_eq_true (show (0 : Int) < ((ts.length - 1 - i : Nat) : Int) by omega)]
              refine iteT ⟨_, rfl, .inl ⟨rfl, _, SqL.of d2⟩, (by show 2 ≤ sizeLine; decide), fun b2 hb2 => ?_⟩
              have mb2 : p2 ≠ b2 := ne_of_none d2 hb2
              have mb1 : p1 ≠ b2 := ne_of_none d1 hb2
              refine ⟨p2, (V.ref b :: us').reverse, _, rfl, rfl, (by rw [upd_ne mb2]; exact d2), (by rw [List.length_reverse, List.length_cons]; omega), ?_⟩
              have tt4 : Tups H5 (upd (upd H5 b2 (.tup [.str " ", .bl true])) p2 (.lst ((V.ref b :: us').reverse ++ [.ref b2]))) := Tups.trans (same_upd hb2).tups (Tups.upd (u := .lst (V.ref b :: us').reverse) (by rw [upd_ne mb2]; exact d2) trivial)
              refine ⟨.ref b2 :: .ref b :: us', _, rfl, (S4.upd (S4.free hb2)).upd hp20, by rw [upd_ne n12, upd_ne mb1]; exact d1, by rw [upd_same]; simp, ?_, dT.tups tt4, dr.tups tt4, by rw [List.length_cons, List.length_cons]; omega⟩
              rw [if_neg hlast, hdrop]
              exact .cons ⟨b2, rfl, SqT.of (by rw [upd_ne mb2.symm, upd_same])⟩ (wtsTups dw tt4)
          · rintro σ' H1 ⟨us', v5', rfl, c1, c2, c3, c4, c5, c6, c7⟩
            rw [hyl, if_pos rfl] at c4
            refine ⟨_, us', ss ++ [("(" : Str)], _, _, _, rfl, c1, c2, c3, c4, ?_, ?_, ?_⟩
            · have e1 : rends (pushL ts ++ Wt.x ")" :: ws) = txtL ts ++ (41 :: rends ws) := by
                have := rends_pushL ts
                simp only [rends, List.flatMap_append, List.flatMap_cons] at this ⊢
                rw [this, rend_cl]
                rfl
              have e2 : ("(" : Str).cps.toList = [40] := by decide +kernel
              rw [List.flatMap_append, e1, ← htxt]
              simp [e2, Wt.rend, T.txt]
            · have h9 := wts_pushL ts
              have e1 : wts (pushL ts ++ Wt.x ")" :: ws) = wts (pushL ts) + (1 + wts ws) := by simp [wts, Wt.wt]
              rw [e1, List.length_append, List.length_singleton]
              omega
            · have h9 := wts_pushL ts
              have e1 : wts (pushL ts ++ Wt.x ")" :: ws) = wts (pushL ts) + (1 + wts ws) := by simp [wts, Wt.wt]
              rw [e1]
              omega
end
end K46
/-! Good programs. -/
namespace K46
open PySem

def fname (n : Nat) : Str := "f" ++ toString (n : Int)
/-- a name that a function may have among so many -/
def NameFit (x : Str) (many : Nat) : Prop := (∃ c cs, x.cps.toList = c :: cs ∧ c ≠ 102) ∨ ∃ n, n < many ∧ n < 100 ∧ x = fname n
def counts (p : Prog) (w : Str) : Option Nat := match special w with
  | some n => some n
  | none => (look p w).map (·.ps.length)
inductive GoodE (c : Str → Option Nat) (ps : List Str) : E → Prop
  | v {x : Str} : x ∈ ps → GoodE c ps (.v x)
  | q {t : T} : GoodE c ps (.q t)
  | app {w : Str} {es : List E} : w ≠ sQuote → c w = some es.length → (∀ e ∈ es, GoodE c ps e) → GoodE c ps (.app w es)
structure GoodPs (ps : List Str) : Prop where
  nd : ps.Nodup
  le : ps.length ≤ 12
  sp : ∀ x ∈ ps, special x = none
structure Good (p : Prog) : Prop where
  ne : p ≠ []
  le : p.length ≤ 100
  nd : (p.map (·.name)).Nodup
  fit : ∀ f ∈ p, NameFit f.name p.length
  sp : ∀ f ∈ p, special f.name = none
  ps : ∀ f ∈ p, GoodPs f.ps
  body : ∀ f ∈ p, GoodE (counts p) f.ps f.body
  nl : ∀ f ∈ p, f.name.length ≤ 1000
  size : ∀ f ∈ p, f.body.t.size ≤ 1000000

theorem special_mem {w : Str} : special w = none ↔ w ∉ [sQuote, sIf, sSame, sWord, sHead, sTail, sJoin] := by
  unfold special
  simp only [List.mem_cons, List.not_mem_nil, or_false, not_or]
  repeat' split
  all_goals simp_all
theorem look_eq {p : Prog} (nd : (p.map (·.name)).Nodup) {f : Fn} (h : f ∈ p) : look p f.name = some f := by
  induction p with
  | nil => cases h
  | cons g p ih =>
    rw [List.map_cons, List.nodup_cons] at nd
    unfold look
    rw [List.find?_cons]
    rcases List.mem_cons.mp h with rfl | h
    · simp
    · have : g.name ≠ f.name := fun e => nd.1 (by rw [e]; exact List.mem_map.mpr ⟨f, h, rfl⟩)
      rw [decide_eq_false this]
      exact ih nd.2 h
theorem look_mem {p : Prog} {g : Str} {f : Fn} (h : look p g = some f) : f ∈ p ∧ f.name = g := by
  refine ⟨List.mem_of_find?_eq_some h, ?_⟩
  have := List.find?_some h
  simpa using this
theorem look_none {p : Prog} {g : Str} : look p g = none ↔ g ∉ p.map (·.name) := by
  unfold look
  rw [List.find?_eq_none]
  simp only [List.mem_map, not_exists, not_and, decide_eq_true_eq]
end K46
/-! programs: is_word, has_head, counts_of. -/
namespace K46
open PySem PySem.Spec PyProof.Rows L2

theorem at0 {x : V} {r : List V} : atI (x :: r) 0 = some x := atI_nat (j := 0) rfl
theorem at1 {x y : V} {r : List V} : atI (x :: y :: r) 1 = some y := atI_nat (j := 1) rfl
theorem at2 {x y z : V} {r : List V} : atI (x :: y :: z :: r) 2 = some z := atI_nat (j := 2) rfl
def specTab : List (Str × V) := [(sQuote, .int 1), (sIf, .int 3), (sSame, .int 2), (sWord, .int 1), (sHead, .int 1), (sTail, .int 1), (sJoin, .int 2)]
/-- the constants of programs -/
structure Cn2 (K : PySem.W.Frag) (w : World) (mg : Str → Option Value) (d : Addr) : Prop where
  special : mg "SPECIAL_WORDS" = some (.ref d)
  tab : KTab K w d specTab
  figures : ∃ t, mg "FIGURES_programs" = some (.str "0123456789" t)
  most : ∃ t, mg "MOST_PARAMETERS" = some (.int 12 t)
theorem specTab_keys : specTab.map (·.1) = [sQuote, sIf, sSame, sWord, sHead, sTail, sJoin] := rfl
theorem specTab_val (w : Str) : valV (kkey specTab) (.inr w) = (special w).map fun n => V.int (n : Nat) := by
  unfold special
  have key : ∀ (a : Str) (v : V) (r : List (Str × V)), valV (kkey ((a, v) :: r)) (.inr w) = if w = a then some v else valV (kkey r) (.inr w) := by
    intro a v r
    by_cases e : w = a
    · rw [if_pos e]; exact valV_pos (p := ((Sum.inr a : Key), v)) (by rw [e])
    · rw [if_neg e]; exact valV_neg (p := ((Sum.inr a : Key), v)) (fun q => e (Sum.inr.inj q).symm)
  unfold specTab
  rw [key, key, key, key, key, key, key]
  have e0 : valV (kkey []) (.inr w) = none := rfl
  rw [e0]
  repeat' split
  all_goals rfl
theorem in_specTab (w : Str) : decide (w ∈ specTab.map (·.1)) = (special w).isSome := by
  rw [specTab_keys]
  cases e : special w with
  | none => rw [decide_eq_false (special_mem.mp e)]; rfl
  | some n =>
    refine decide_eq_true (Classical.byContradiction fun h => ?_)
    rw [special_mem.mpr h] at e
    cases e
theorem kkey_length (l : List (Str × V)) : (kkey l).length = l.length := List.length_map ..

def spIsWord (K : PySem.W.Frag) : Sp := fun vs H Q _ => ∃ v t, vs = [v] ∧ Rep K H t v ∧ Q (.bl (isW t)) H
def spHasHead (K : PySem.W.Frag) : Sp := fun vs H Q _ => ∃ v f, vs = [v] ∧ Rep K H (Fn.t f) v ∧ Q (.bl true) H
def spCountsOf (K : PySem.W.Frag) : Sp := fun vs H Q _ => ∃ v p, vs = [v] ∧ Rep K H (progT p) v ∧ (p.map (·.name)).Nodup ∧ (∀ f ∈ p, special f.name = none) ∧ p.length ≤ 1000 ∧
  ∀ d H' kvs, Same H H' → H' d = some (.dK kvs) → H d = none → (∀ w, valV kvs (.inr w) = (counts p w).map fun n => V.int (n : Nat)) → Q (.ref d) H'
abbrev sIsWord : Stmt := top 18
theorem sc_sIsWord : FnScope ["value"] ["value"] (defScope sIsWord) := ⟨rfl, rfl, rfl, by decide +kernel, rfl, by decide +kernel, by decide +kernel⟩
abbrev sHasHead : Stmt := top 19
theorem sc_sHasHead : FnScope ["function"] ["function"] (defScope sHasHead) := ⟨rfl, rfl, rfl, by decide +kernel, rfl, by decide +kernel, by decide +kernel⟩
abbrev sCountsOf : Stmt := top 20
theorem sc_sCountsOf : FnScope ["program", "counts", "function"] ["program"] (defScope sCountsOf) := ⟨rfl, rfl, rfl, by decide +kernel, rfl, by decide +kernel, by decide +kernel⟩

theorem counts_take {p : Prog} {i : Nat} {f : Fn} (nd : (p.map (·.name)).Nodup) (hf : p[i]? = some f) (hs : special f.name = none) (w : Str) :
    counts (p.take i) f.name = none ∧ counts (p.take (i + 1)) w = if w = f.name then some f.ps.length else counts (p.take i) w := by
  have hn : look (p.take i) f.name = none := by
    rw [look_none]
    intro hm
    obtain ⟨g, hg, e⟩ := List.mem_map.mp hm
    obtain ⟨j, hj, e2⟩ := List.mem_iff_getElem.mp hg
    rw [List.length_take] at hj
    rw [List.getElem_take] at e2
    obtain ⟨hi, e3⟩ := List.getElem?_eq_some_iff.mp hf
    have := List.pairwise_iff_getElem.mp nd j i (by rw [List.length_map]; omega) (by rw [List.length_map]; omega) (by omega)
    rw [List.getElem_map, List.getElem_map, e2, e3] at this
    exact this e
  have ht : p.take (i + 1) = p.take i ++ [f] := by rw [List.take_succ, hf]; rfl
  refine ⟨by rw [counts, hs, hn]; rfl, ?_⟩
  by_cases e : w = f.name
  · rw [if_pos e, counts, e, hs, ht]
    unfold look at hn ⊢
    rw [List.find?_append, hn]
    simp
  · rw [if_neg e, counts, counts, ht]
    cases special w with
    | some n => rfl
    | none =>
      unfold look
      rw [List.find?_append]
      have : List.find? (fun f => decide (f.name = w)) [f] = none := by rw [List.find?_cons, decide_eq_false (fun q => e q.symm)]; rfl
      rw [this]
      simp
section
variable {P : Program} {w : World} {K : PySem.W.Frag} {mg : Str → Option Value} {base : Heap}
theorem ok_isWord {f : Addr} {fd : FuncData} (B : Bl mg) (D : Dfn K mg "is_word" sIsWord ["value"] f fd) : FnOk P w K mg base CX0 1 f fd ["value"] (spIsWord K) := by
  refine D.F.ok sc_sIsWord (fun vs H Q E h => ?_) (fun cdv A outer s H vs Q E hr h => ?_)
  · obtain ⟨v, t, rfl, _⟩ := h
    rfl
  · obtain ⟨v, t, rfl, hv, k⟩ := h
    have nd := sc_sIsWord.nd
    refine ⟨_,
      (pss_one (ps_ret (pe_callB call_isStr (by rfl) B.isinstance PyProof.Rows.boot_isinstance (pa_cons (pv 0) (pa_cons (pe_bltn (v := .ty "str") (by rfl) B.str PyProof.Rows.boot_str rfl) pa_nil)))))
      , ?_⟩
    exact ⟨_, rfl, _, _, rfl, hv, k⟩
theorem ok_hasHead {f fW : Addr} {fd fdW : FuncData} (B : Bl mg) (D : Dfn K mg "has_head" sHasHead ["function"] f fd) (DW : Dfn K mg "is_word" sIsWord ["value"] fW fdW)
    (GW : FnOk P w K mg base CX0 1 fW fdW ["value"] (spIsWord K)) : FnOk P w K mg base CX0 2 f fd ["function"] (spHasHead K) := by
  refine D.F.ok sc_sHasHead (fun vs H Q E h => ?_) (fun cdv A outer s H vs Q E hr h => ?_)
  · obtain ⟨v, t, rfl, _⟩ := h
    rfl
  · obtain ⟨v, g, rfl, hv, k⟩ := h
    have nd := sc_sHasHead.nd
    refine ⟨_,
      (pss_one (ps_ret (pe_and (pe_not (pe_call GW hr (by rfl) DW.g DW.F.kp DW.b .nil pass0 (pa_cons (pv 0) pa_nil))) (pe_and (pe_cmpR op_eq (pe_callB call_len_seq (by rfl) B.len PySem.boot_len (pa_cons (pv 0) pa_nil)) pe_int (nomark _)) (pe_and (pe_call GW hr (by rfl) DW.g DW.F.kp DW.b .nil pass0 (pa_cons (pe_ix ix_tup (pv 0) pe_int (fun _ _ => rfl)) pa_nil)) (pe_one (pe_not (pe_call GW hr (by rfl) DW.g DW.F.kp DW.b .nil pass0 (pa_cons (pe_ix ix_tup (pv 0) pe_int (fun _ _ => rfl)) pa_nil)))))))))
      , ?_⟩
    obtain ⟨a, xs, rfl, hT, hxs⟩ := hv.l_eq
    obtain ⟨x0, r0, rfl, h0, hxs⟩ := hxs.cons_eq
    obtain ⟨x1, r1, rfl, h1, hxs⟩ := hxs.cons_eq
    obtain ⟨x2, r2, rfl, h2, hxs⟩ := hxs.cons_eq
    have := hxs.nil_eq
    subst this
    refine ⟨_, rfl, _, _, rfl, hv, ?_⟩
    refine ⟨_, rfl, _, rfl, iteT ?_⟩
    refine ⟨_, rfl, a, _, rfl, .inr hT, rfl, ?_⟩
    rw [decide_eq_true (show V.int (([x0, x1, x2] : List V).length : Nat) = V.int 3 from rfl)]
    refine ⟨_, rfl, iteT ?_⟩
    refine ⟨_, rfl, a, _, _, _, rfl, rfl, hT, at0, _, _, rfl, h0, _, rfl, iteT ?_⟩
    refine ⟨_, rfl, a, _, _, _, rfl, rfl, hT, at1, _, _, rfl, h1, _, rfl, ?_⟩
    exact k
theorem ok_countsOf {f fH dS : Addr} {fd fdH : FuncData} (B : Bl mg) (C : Cn2 K w mg dS) (D : Dfn K mg "counts_of" sCountsOf ["program"] f fd) (DH : Dfn K mg "has_head" sHasHead ["function"] fH fdH)
    (GH : FnOk P w K mg base CX0 2 fH fdH ["function"] (spHasHead K)) : FnOk P w K mg base CX0 3 f fd ["program"] (spCountsOf K) := by
  refine D.F.ok sc_sCountsOf (fun vs H Q E h => ?_) (fun cdv A outer s H vs Q E hr h => ?_)
  · obtain ⟨v, t, rfl, _⟩ := h
    rfl
  · obtain ⟨v, p, rfl, hv, hnd, hsp, hlen, k⟩ := h
    have nd := sc_sCountsOf.nd
    have hu := hu_of hr
    refine ⟨_,
      (pss_cons (ps_set (i := 1) nd rfl (.inl rfl) (pe_callTy (call_dict_kd C.tab) (by rfl) B.dict PyProof.Rows.boot_dict (pa_cons (pe_glob (v := .ref dS) (by rfl) C.special rfl) pa_nil)))
      (pss_cons (ps_for PassesOwn.never rfl (pi_tup (pv 0)) (pg_name (i := 2) nd rfl (.inl rfl))
      (pss_one (ps_if (PW.pt (pw_and (pt_val (pe_call GH hr (by rfl) DH.g DH.F.kp DH.b .nil pass0 (pa_cons (pv 2) pa_nil))) (pw_and1 (pt_cmp (pc_dnotin hu (pe_ix ix_tup (pv 2) pe_int (fun _ _ => rfl)) (pv 1)) (by rfl)))))
      (pss_one (ps_dput hu (pv 1) (pe_ix ix_tup (pv 2) pe_int (fun _ _ => rfl)) (pe_callB call_len_seq (by rfl) B.len PySem.boot_len (pa_cons (pe_ix ix_tup (pv 2) pe_int (fun _ _ => rfl)) pa_nil)) rfl))
      pss_nil)))
      (pss_one (ps_ret (pv 1)))))
      , ?_⟩
    have hs : sizeLine = 16777216 := rfl
    refine ⟨rfl, fun d hd => ?_⟩
    obtain ⟨a, xs, rfl, hT, hxs⟩ := hv.l_eq
    have hxl := hxs.length
    rw [List.length_map] at hxl
    refine ⟨_, rfl, a, rfl, ⟨xs, hT.same (same_upd hd)⟩, ?_⟩
    refine for_tup (xs := xs) (fun i σ' H1 => ∃ (kvs : List (Key × V)) (x : Option V), σ' = [some (.ref a), some (.ref d), x] ∧ Same H H1 ∧ H1 d = some (.dK kvs) ∧ kvs.length ≤ 7 + i ∧ ∀ w, valV kvs (.inr w) = (counts (p.take i) w).map fun n => V.int (n : Nat)) ?_ ?_ ?_ ?_
    · refine ⟨_, _, rfl, same_upd hd, upd_same, by rw [kkey_length]; decide, fun w => ?_⟩
      rw [specTab_val, List.take_zero, counts]
      cases special w <;> rfl
    · rintro i σ' H1 hi ⟨kvs, x, rfl, S, h1, h2, h3⟩
      exact hT.same S
    · rintro i y σ' H1 hy ⟨kvs, x, rfl, S, h1, h2, h3⟩
      obtain ⟨t, ht, hyr⟩ := hxs.getV hy
      rw [List.getElem?_map, Option.map_eq_some_iff] at ht
      obtain ⟨g, hg, rfl⟩ := ht
      have hgm : g ∈ p := List.mem_of_getElem? hg
      obtain ⟨ya, ys, rfl, hyT, hys⟩ := (hyr.same S).l_eq
      obtain ⟨x0, r0, rfl, e0, hys⟩ := hys.cons_eq
      obtain ⟨x1, r1, rfl, e1, hys⟩ := hys.cons_eq
      have e0 := e0.w_eq
      subst e0
      obtain ⟨pa, ps, rfl, hpT, hps⟩ := e1.l_eq
      have hpl := hps.length
      rw [List.length_map] at hpl
      have hct := counts_take hnd hg (hsp g hgm)
      have hn0 : valV kvs (.inr g.name) = none := by rw [h3, (hct g.name).1]; rfl
      refine ⟨_, rfl, _, _, rfl, hyr.same S, _, rfl, iteT ?_⟩
      refine ⟨_, rfl, ya, _, _, _, rfl, rfl, hyT, at0, _, rfl, d, none, rfl, ?_, _, rfl, iteT ?_⟩
      · have := DGet.k (k := .inr g.name) h1
        rw [hn0] at this
        exact this
      have hi := (List.getElem?_eq_some_iff.mp hg).1
      refine ⟨_, rfl, ya, _, _, _, rfl, rfl, hyT, at1, pa, _, rfl, .inr hpT, _, rfl, _, rfl, ya, _, _, _, rfl, rfl, hyT, at0, d, _, rfl, DPut.k (k := .inr g.name) h1 (by omega), ?_⟩
      have hd1 : H d = none := hd
      refine ⟨_, _, rfl, S.upd hd1, upd_same, ?_, fun w => ?_⟩
      · rw [putK_new _ hn0, List.length_append, List.length_singleton]; omega
      · rw [valV_put, h3, (hct w).2, hpl]
        by_cases e : w = g.name
        · rw [e, if_pos rfl, if_pos rfl]; rfl
        · rw [if_neg (fun q => e (Sum.inr.inj q)), if_neg e]
    · rintro σ' H1 ⟨kvs, x, rfl, S, h1, h2, h3⟩
      rw [hxl, List.take_length] at h3
      exact ⟨_, rfl, k d H1 kvs S h1 hd h3⟩
end
end K46
/-! programs: name_fits, parameters_fit. -/
namespace K46
open PySem PySem.Spec PyProof.Rows L2

theorem cutV_drop (xs : List V) (k : Nat) : cutV xs (some (k : Int)) none = xs.drop k := by
  unfold cutV
  rw [HT.sIx_none, HT.sIx_nat]
  rcases Nat.le_total k xs.length with h | h
  · rw [Nat.min_eq_left h, List.take_of_length_le (by rw [List.length_drop]; exact Nat.le_refl _)]
  · rw [Nat.min_eq_right h, List.drop_eq_nil_of_le (Nat.le_refl _), List.drop_eq_nil_of_le h, List.take_nil]
theorem cutV_take (xs : List V) (k : Nat) : cutV xs none (some (k : Int)) = xs.take k := by
  unfold cutV
  rw [HT.sIx_none, HT.sIx_nat, List.drop_zero, Nat.sub_zero]
  rcases Nat.le_total k xs.length with h | h
  · rw [Nat.min_eq_left h]
  · rw [Nat.min_eq_right h, List.take_of_length_le (Nat.le_refl _), List.take_of_length_le h]
theorem flat_strs (xs : List Str) : (xs.map V.str).all flatV = true := by
  rw [List.all_eq_true]
  intro v hv
  obtain ⟨z, _, rfl⟩ := List.mem_map.mp hv
  rfl
theorem inV_strs (z : Str) (xs : List Str) : inV (.str z) (xs.map V.str) = decide (z ∈ xs) := by
  rw [Bool.eq_iff_iff]
  unfold inV
  rw [List.any_eq_true, decide_eq_true_eq]
  constructor
  · rintro ⟨v, hv, e⟩
    obtain ⟨y, hy, rfl⟩ := List.mem_map.mp hv
    have : y = z := by simpa [eqV] using e
    rw [← this]; exact hy
  · intro h
    exact ⟨_, List.mem_map.mpr ⟨z, h, rfl⟩, by simp [eqV]⟩
theorem fname_facts : ∀ n, n < 100 → (fname n).cps[0]? = some 102 ∧ (fname n).length ≤ 10 ∧ cutS (fname n) (some 1) none ≠ "" ∧ (cutS (fname n) (some 1) none).length ≤ 10 ∧ Txt.stripChars (cutS (fname n) (some 1) none) "0123456789" = "" ∧
    (cutS (fname n) (some 1) none = "0" ∨ (cutS (fname n) (some 1) none).cps[0]? ≠ some 48) ∧ PySem.intText? (cutS (fname n) (some 1) none) = some (n : Int) := by decide +kernel
theorem fname_inj : ∀ n, n < 100 → ∀ m, m < 100 → fname n = fname m → n = m := by decide +kernel
theorem fname_sp : ∀ n, n < 100 → special (fname n) = none := by decide +kernel
theorem fname_cps : ∀ n, n < 100 → ((fname n).cps.toList.tail.all isFig = true) ∧ (fname n).cps.toList.head? = some 102 ∧ (fname n).length ≤ 3 := by decide +kernel
theorem str_ne {s : Str} (h : s ≠ "") : 0 < s.length := by
  rcases Nat.eq_zero_or_pos s.length with e | e
  · refine absurd ?_ h
    have : s.cps = #[] := Array.eq_empty_of_size_eq_zero e
    show s = ⟨#[]⟩
    cases s
    simp_all
  · exact e

def spNameFits : Sp := fun vs H Q _ => ∃ (x : Str) (d : Addr) (kvs : List (Key × V)) (m : Nat), vs = [.str x, .ref d, .int (m : Nat)] ∧ H d = some (.dK kvs) ∧ valV kvs (.inr x) = none ∧ special x = none ∧ NameFit x m ∧ x.length ≤ 1000000 ∧ Q (.bl true) H
def spParametersFit (K : PySem.W.Frag) : Sp := fun vs H Q _ => ∃ (a : Addr) (ps : List Str), vs = [.ref a] ∧ SqT K H a (ps.map V.str) ∧ GoodPs ps ∧ ∀ H', Same H H' → Q (.bl true) H'
abbrev sNameFits : Stmt := top 21
theorem sc_sNameFits : FnScope ["name", "names", "many", "figures"] ["name", "names", "many"] (defScope sNameFits) := ⟨rfl, rfl, rfl, by decide +kernel, rfl, by decide +kernel, by decide +kernel⟩
abbrev sParametersFit : Stmt := top 22
theorem sc_sParametersFit : FnScope ["parameters", "at", "parameter"] ["parameters"] (defScope sParametersFit) := ⟨rfl, rfl, rfl, by decide +kernel, rfl, by decide +kernel, by decide +kernel⟩
section
variable {P : Program} {w : World} {K : PySem.W.Frag} {mg : Str → Option Value} {base : Heap}
theorem ok_nameFits {f dS : Addr} {fd : FuncData} (B : Bl mg) (C : Cn2 K w mg dS) (D : Dfn K mg "name_fits" sNameFits ["name", "names", "many"] f fd) : FnOk P w K mg base CX0 1 f fd ["name", "names", "many"] spNameFits := by
  refine D.F.ok sc_sNameFits (fun vs H Q E h => ?_) (fun cdv A outer s H vs Q E hr h => ?_)
  · obtain ⟨x, d, kvs, m, rfl, _⟩ := h
    rfl
  · obtain ⟨x, d, kvs, m, rfl, hd, hv, hsp, hfit, hlen, k⟩ := h
    have nd := sc_sNameFits.nd
    have hu := hu_of hr
    obtain ⟨tF, eF⟩ := C.figures
    refine ⟨_,
      (pss_cons (ps_if (PW.pt (pw_or (pt_cmpR (op_in_ktab C.tab) (pv 0) (pe_glob (v := .ref dS) (by rfl) C.special rfl) (by rfl)) (pw_or1 (pt_cmp (pc_din hu (pv 0) (pv 1)) (by rfl)))))
      (pss_one (ps_ret pe_bl))
      pss_nil)
      (pss_cons (ps_set (i := 3) nd rfl (.inl rfl) (pe_slice sl_str (pv 0) (po_some pe_int) po_none))
      (pss_cons (ps_if (PW.pt (pw_or (pt_cmpR op_ne (pe_item_str (pv 0) pe_int (fun _ _ => rfl)) pe_str (nomark _)) (pw_or (pt_cmpR op_eq (pv 3) pe_str (nomark _)) (pw_or1 (pt_cmpR op_ne (pe_bm PySem.F.plainAttrs_str PySem.F.slot_str_strip PySem.F.type_str_strip mt_stripChars (pv 3) (pa_cons (pe_glob (v := .str "0123456789") (by rfl) eF ⟨_, rfl⟩) pa_nil)) pe_str (nomark _))))))
      (pss_one (ps_ret pe_bl))
      pss_nil)
      (pss_one (ps_ret (pe_and (pe_or (pe_cmpR op_eq (pv 3) pe_str (nomark _)) (pe_one (pe_cmpR op_ne (pe_item_str (pv 3) pe_int (fun _ _ => rfl)) pe_str (nomark _)))) (pe_one (pe_cmpR op_lt (pe_callTy call_int_str (by rfl) B.int PyProof.Rows.boot_int (pa_cons (pv 3) pa_nil)) (pv 2) (nomark _)))))))))
      , ?_⟩
    have hs : sizeLine = 16777216 := rfl
    refine ⟨_, rfl, x, rfl, rfl, _, rfl, ?_⟩
    rw [in_specTab, hsp]
    refine iteF ⟨_, rfl, _, rfl, d, none, rfl, ?_, _, rfl, iteF ?_⟩
    · have := DGet.k (k := .inr x) hd
      rw [hv] at this
      exact this
    refine ⟨_, rfl, _, rfl, x, rfl, by omega, ?_⟩
    have h0 : ∃ c, x.cps[0]? = some c ∧ 0 < x.length := by
      rcases hfit with ⟨c, cs, e, _⟩ | ⟨n, _, h2, e⟩
      · have : x.cps[0]? = some c := by rw [cps_get, e]; rfl
        exact ⟨c, this, (Array.getElem?_eq_some_iff.mp this).1⟩
      · have := (fname_facts n h2).1
        rw [← e] at this
        exact ⟨_, this, (Array.getElem?_eq_some_iff.mp this).1⟩
    obtain ⟨c, hc, hl0⟩ := h0
    refine ⟨_, rfl, x, 0, c, rfl, rfl, by omega, by omega, by omega, hc, rfl, ?_⟩
    rcases hfit with ⟨c', cs, e, hne⟩ | ⟨n, h1, h2, e⟩
    · have : x.cps[0]? = some c' := by rw [cps_get, e]; rfl
      rw [hc] at this
      cases this
      rw [decide_eq_false (show ¬ V.str ⟨#[c]⟩ = V.str "f" from fun q => by
        have q1 : (⟨#[c]⟩ : Str).cps[0]? = ("f" : Str).cps[0]? := by rw [V.str.inj q]
        have q2 : ("f" : Str).cps[0]? = some 102 := by decide +kernel
        rw [q2] at q1
        exact hne (by simpa using q1))]
      exact ⟨_, rfl, iteT k⟩
    · obtain ⟨f1, f2, f3, f4, f5, f6, f7⟩ := fname_facts n h2
      rw [← e] at f1 f2 f3 f4 f5 f6 f7
      have hf0 := str_ne f3
      rw [hc] at f1
      cases f1
      generalize cutS x (some 1) none = g at *
      rw [decide_eq_true (show V.str ⟨#[102]⟩ = V.str "f" from congrArg V.str (by decide +kernel))]
      refine ⟨_, rfl, iteF ⟨_, rfl, rfl, ?_⟩⟩
      rw [decide_eq_false (show ¬ V.str g = V.str "" from fun q => f3 (V.str.inj q))]
      refine ⟨_, rfl, iteF ⟨_, rfl, rfl, g, "0123456789", rfl, rfl, by omega, rfl, ?_⟩⟩
      rw [f5, decide_eq_true (show V.str "" = V.str "" from rfl)]
      refine ⟨_, rfl, iteF ⟨_, rfl, rfl, ?_⟩⟩
      by_cases hz : g = "0"
      · rw [decide_eq_true (show V.str g = V.str "0" from congrArg V.str hz)]
        refine ⟨_, rfl, iteT ⟨_, rfl, iteT ⟨_, rfl, g, n, rfl, f7, by omega, _, rfl, _, _, rfl, rfl, ?_⟩⟩⟩
        show Q (.bl (decide ((n : Int) < (m : Int)))) H
        rw [decide_eq_true (show (n : Int) < (m : Int) by omega)]
        exact k
      · rw [decide_eq_false (show ¬ V.str g = V.str "0" from fun q => hz (V.str.inj q))]
        obtain ⟨c2, hc2⟩ : ∃ c2, g.cps[0]? = some c2 := ⟨_, Array.getElem?_eq_getElem hf0⟩
        refine ⟨_, rfl, iteF ⟨_, rfl, g, 0, c2, rfl, rfl, by omega, by omega, by omega, hc2, rfl, ?_⟩⟩
        rw [decide_eq_false (show ¬ V.str ⟨#[c2]⟩ = V.str "0" from fun q => by
          have q1 : (⟨#[c2]⟩ : Str).cps[0]? = ("0" : Str).cps[0]? := by rw [V.str.inj q]
          have q2 : ("0" : Str).cps[0]? = some 48 := by decide +kernel
          rw [q2] at q1
          rcases f6 with f6 | f6
          · exact hz f6
          · exact f6 (by rw [hc2]; simpa using q1))]
        refine ⟨_, rfl, iteT ⟨_, rfl, g, n, rfl, f7, by omega, _, rfl, _, _, rfl, rfl, ?_⟩⟩
        show Q (.bl (decide ((n : Int) < (m : Int)))) H
        rw [decide_eq_true (show (n : Int) < (m : Int) by omega)]
        exact k
theorem ok_parametersFit {f fW dS : Addr} {fd fdW : FuncData} (B : Bl mg) (C : Cn2 K w mg dS) (D : Dfn K mg "parameters_fit" sParametersFit ["parameters"] f fd) (DW : Dfn K mg "is_word" sIsWord ["value"] fW fdW)
    (GW : FnOk P w K mg base CX0 1 fW fdW ["value"] (spIsWord K)) : FnOk P w K mg base CX0 2 f fd ["parameters"] (spParametersFit K) := by
  refine D.F.ok sc_sParametersFit (fun vs H Q E h => ?_) (fun cdv A outer s H vs Q E hr h => ?_)
  · obtain ⟨x, d, rfl, _⟩ := h
    rfl
  · obtain ⟨a, ps, rfl, hT, hps, k⟩ := h
    have nd := sc_sParametersFit.nd
    have hu := hu_of hr
    obtain ⟨tM, eM⟩ := C.most
    refine ⟨_,
      (pss_cons (ps_if (pt_cmpR op_gt (pe_callB call_len_seq (by rfl) B.len PySem.boot_len (pa_cons (pv 0) pa_nil)) (pe_glob (v := .int 12) (by rfl) eM ⟨_, rfl⟩) (nomark _))
      (pss_one (ps_ret pe_bl))
      pss_nil)
      (pss_cons (ps_for PassesOwn.never rfl (pi_enumT (by rfl) B.enumerate (pa_cons (pv 0) pa_nil)) (pg_tup (by rfl) (pgs_cons (pg_name (i := 1) nd rfl (.inl rfl)) (pgs_cons (pg_name (i := 2) nd rfl (.inl rfl)) pgs_nil)))
      (pss_one (ps_if (PW.pt (pw_or (pt_not (pt_val (pe_call GW hr (by rfl) DW.g DW.F.kp DW.b .nil pass0 (pa_cons (pv 2) pa_nil)))) (pw_or (pt_cmpR (op_in_ktab C.tab) (pv 2) (pe_glob (v := .ref dS) (by rfl) C.special rfl) (by rfl)) (pw_or1 (pt_cmpR op_in_seq (pv 2) (pe_slice sl_tupS (pv 0) po_none (po_some (pv 1))) (by rfl))))))
      (pss_one (ps_ret pe_bl))
      pss_nil)))
      (pss_one (ps_ret pe_bl))))
      , ?_⟩
    have hs : sizeLine = 16777216 := rfl
    have hle := hps.le
    refine ⟨_, rfl, a, _, rfl, .inr hT, _, _, rfl, rfl, _, rfl, ?_⟩
    rw [List.length_map, decide_eq_false (show ¬ ((12 : Int) < ((ps.length : Nat) : Int)) by omega)]
    refine iteF ⟨_, rfl, a, _, rfl, hT, ?_⟩
    refine for_F (fun i σ' H1 => ∃ (x y : Option V), σ' = [some (.ref a), x, y] ∧ Same H H1) ?_ ?_ ?_ ?_
    · exact ⟨_, _, rfl, Same.refl H⟩
    · rintro i σ' H1 hi ⟨x, y, rfl, S⟩
      exact hT.same S
    · rintro i vs' T σ' H1 hi ⟨z, hz, rfl⟩ ⟨x, y, rfl, S⟩ hT0
      refine ⟨T, _, rfl, SqT.of upd_same, rfl, _, _, rfl, _, _, rfl, rfl, ?_⟩
      rw [List.getElem?_map, Option.map_eq_some_iff] at hz
      obtain ⟨z, hz, rfl⟩ := hz
      have hzm : z ∈ ps := List.mem_of_getElem? hz
      have S1 : Same H (upd H1 T (.tup [.int ((i : Nat) : Int), .str z])) := S.upd (S.free hT0)
      generalize upd H1 T (.tup [.int ((i : Nat) : Int), .str z]) = H2 at *
      refine ⟨_, rfl, .str z, .w z, rfl, .w, _, rfl, iteF ?_⟩
      refine ⟨_, rfl, z, rfl, rfl, _, rfl, ?_⟩
      rw [in_specTab, hps.sp z hzm]
      refine iteF ⟨_, rfl, _, rfl, _, rfl, _, rfl, a, _, rfl, hT.same S1, fun b H3 S3 hT3 => ?_⟩
      rw [cutV_take, ← List.map_take] at hT3
      refine ⟨b, _, rfl, .inr hT3, rfl, flat_strs _, ?_⟩
      have hnot : ¬ z ∈ ps.take i := by
        intro hm
        obtain ⟨j, hj, e2⟩ := List.mem_iff_getElem.mp hm
        rw [List.length_take] at hj
        rw [List.getElem_take] at e2
        obtain ⟨hi2, e3⟩ := List.getElem?_eq_some_iff.mp hz
        exact List.pairwise_iff_getElem.mp hps.nd j i (by omega) (by omega) (by omega) (by rw [e2, e3])
      have e9 : (if false = true then !decide (z ∈ ps.take i) else decide (z ∈ ps.take i)) = false := by rw [decide_eq_false hnot]; rfl
      rw [inV_strs, e9]
      exact ⟨_, rfl, iteF ⟨_, _, rfl, S1.trans S3⟩⟩
    · rintro σ' H1 ⟨x, y, rfl, S⟩
      exact k H1 S
end
end K46
/-! programs: body_fits, check_program, inputs_of. -/
namespace K46
open PySem PySem.Spec PyProof.Rows L2

def spBodyFits (K : PySem.W.Frag) : Sp := fun vs H Q _ => ∃ (v : V) (a d : Addr) (e : E) (ps : List Str) (c : Str → Option Nat) (kvs : List (Key × V)), vs = [v, .ref a, .ref d] ∧ Rep K H e.t v ∧ SqT K H a (ps.map V.str) ∧ H d = some (.dK kvs) ∧
  (∀ w, valV kvs (.inr w) = (c w).map fun n => V.int (n : Nat)) ∧ c sQuote = some 1 ∧ GoodE c ps e ∧ e.t.size ≤ 1000000 ∧ ∀ H', Same H H' → Q (.bl true) H'
def spCheckProgram (K : PySem.W.Frag) : Sp := fun vs H Q _ => ∃ v p, vs = [v] ∧ Rep K H (progT p) v ∧ Good p ∧ ∀ H', Same H H' → Q .non H'
def spInputsOf (K : PySem.W.Frag) : Sp := fun vs H Q _ => ∃ v g p, vs = [v] ∧ Rep K H (progT (g :: p)) v ∧ Good (g :: p) ∧ ∀ H', Same H H' → Q (.int ((g.ps.length : Nat) : Int)) H'
abbrev sBodyFits : Stmt := top 23
theorem sc_sBodyFits : FnScope ["body", "parameters", "counts", "waiting", "expression"] ["body", "parameters", "counts"] (defScope sBodyFits) := ⟨rfl, rfl, rfl, by decide +kernel, rfl, by decide +kernel, by decide +kernel⟩
abbrev sCheckProgram : Stmt := top 24
theorem sc_sCheckProgram : FnScope ["value", "counts", "names", "number", "function", "name", "parameters", "body"] ["value"] (defScope sCheckProgram) := ⟨rfl, rfl, rfl, by decide +kernel, rfl, by decide +kernel, by decide +kernel⟩
abbrev sInputsOf : Stmt := top 25
theorem sc_sInputsOf : FnScope ["program"] ["program"] (defScope sInputsOf) := ⟨rfl, rfl, rfl, by decide +kernel, rfl, by decide +kernel, by decide +kernel⟩
def wes (es : List E) : Nat := (es.map fun e => e.t.size).sum
theorem wes_len (es : List E) : es.length ≤ wes es := by
  induction es with
  | nil => exact Nat.le_refl _
  | cons e es ih =>
    have := size_pos e.t
    simp only [wes, List.map_cons, List.sum_cons, List.length_cons] at ih ⊢
    omega
theorem wes_app (w : Str) (es : List E) : wes es + 1 < (E.app w es).t.size := by
  have key : ∀ es : List E, wes es + 1 ≤ sizeL (tL es) := by
    intro es
    induction es with
    | nil => simp [wes, tL, sizeL]
    | cons e es ih =>
      simp only [wes, List.map_cons, List.sum_cons, tL, sizeL] at ih ⊢
      omega
  have := key es
  have h2 : (E.app w es).t.size = 1 + sizeL (tL es) := by simp [E.t, T.size, sizeL]
  omega
theorem wes_append (a b : List E) : wes (a ++ b) = wes a + wes b := by simp [wes]
theorem wes_reverse (a : List E) : wes a.reverse = wes a := by simp [wes]
theorem reps_reverse {K : PySem.W.Frag} {H : Hp} : ∀ {ts : List T} {vs : List V}, Reps K H ts vs → Reps K H ts.reverse vs.reverse
  | [], vs, h => by rw [h.nil_eq]; exact .nil
  | t :: ts, vs, h => by
    obtain ⟨v, r, rfl, h2, h3⟩ := h.cons_eq
    rw [List.reverse_cons, List.reverse_cons]
    exact (reps_reverse h3).snoc h2
theorem E.t_app (w : Str) (es : List E) : (E.app w es).t = .l (.w w :: es.map E.t) := by rw [E.t, tL_map]
section
variable {P : Program} {w : World} {K : PySem.W.Frag} {mg : Str → Option Value} {base : Heap}
theorem ok_bodyFits {f fW : Addr} {fd fdW : FuncData} (B : Bl mg) (D : Dfn K mg "body_fits" sBodyFits ["body", "parameters", "counts"] f fd) (DW : Dfn K mg "is_word" sIsWord ["value"] fW fdW)
    (GW : FnOk P w K mg base CX0 1 fW fdW ["value"] (spIsWord K)) : FnOk P w K mg base CX0 2 f fd ["body", "parameters", "counts"] (spBodyFits K) := by
  refine D.F.ok sc_sBodyFits (fun vs H Q XE h => ?_) (fun cdv A outer s H vs Q XE hr h => ?_)
  · obtain ⟨v, a, d, e, ps, c, kvs, rfl, _⟩ := h
    rfl
  · obtain ⟨v, a, d, e, ps, c, kvs, rfl, hv, hT, hd, hc, hcq, hg, hsz, k⟩ := h
    have nd := sc_sBodyFits.nd
    have hu := hu_of hr
    refine ⟨_,
      (pss_cons (ps_set (i := 3) nd rfl (.inl rfl) (pe_lst (pa_cons (pv 0) pa_nil)))
      (pss_cons (ps_while PassesOwn.never (pt_cmpR op_gt (pe_callB call_len_seq (by rfl) B.len PySem.boot_len (pa_cons (pv 3) pa_nil)) pe_int (nomark _))
      (pss_cons (ps_set (i := 4) nd rfl (.inl rfl) (pe_bm0 PySem.F.plainAttrs_list PySem.F.slot_list_pop PySem.F.type_list_pop mt_pop (pv 3)))
      (pss_one (ps_if (pt_val (pe_call GW hr (by rfl) DW.g DW.F.kp DW.b .nil pass0 (pa_cons (pv 4) pa_nil)))
      (pss_one (ps_if (pt_cmpR op_notIn_seq (pv 4) (pv 1) (by rfl))
      (pss_one (ps_ret pe_bl))
      pss_nil))
      (pss_one (ps_if (PW.pt (pw_or (pt_cmpR op_eq (pe_callB call_len_seq (by rfl) B.len PySem.boot_len (pa_cons (pv 4) pa_nil)) pe_int (nomark _)) (pw_or1 (pt_not (pt_val (pe_call GW hr (by rfl) DW.g DW.F.kp DW.b .nil pass0 (pa_cons (pe_ix ix_tup (pv 4) pe_int (fun _ _ => rfl)) pa_nil)))))))
      (pss_one (ps_ret pe_bl))
      (pss_one (ps_if (pt_cmpR op_ne (pe_dget1 hu (pv 2) (pe_ix ix_tup (pv 4) pe_int (fun _ _ => rfl)) ⟨rfl, rfl, rfl, rfl⟩) (pe_op op_sub (pe_callB call_len_seq (by rfl) B.len PySem.boot_len (pa_cons (pv 4) pa_nil)) pe_int) (nomark _))
      (pss_one (ps_ret pe_bl))
      (pss_one (ps_if (pt_cmpR op_ne (pe_ix ix_tup (pv 4) pe_int (fun _ _ => rfl)) pe_str (nomark _))
      (pss_one (ps_expr (pe_bm PySem.F.plainAttrs_list PySem.F.slot_list_extend PySem.F.type_list_extend mt_extendT (pv 3) (pa_cons (pe_slice sl_tupS (pv 4) (po_some pe_int) po_none) pa_nil))))
      pss_nil))))))))))
      (pss_one (ps_ret pe_bl))))
      , ?_⟩
    have hs : sizeLine = 16777216 := rfl
    refine ⟨_, rfl, (by show 1 ≤ sizeLine; decide), fun p1 hp1 => ?_⟩
    have nd1 : d ≠ p1 := ne_of_none hd hp1
    refine ⟨fun m σ H' => ∃ (es : List E) (us : List V) (x : Option V), σ = [some v, some (.ref a), some (.ref d), some (.ref p1), x] ∧ Same H H' ∧ H' p1 = some (.lst us.reverse) ∧ Reps K H' (es.map E.t) us ∧ (∀ e ∈ es, GoodE c ps e) ∧ wes es ≤ 1000000 ∧ m = wes es,
      ⟨_, [e], [v], none, rfl, same_upd hp1, upd_same, ?_, fun e' he => by rw [List.mem_singleton.mp he]; exact hg, by simpa [wes] using hsz, rfl⟩, ?_⟩
    · exact .cons (hv.same (same_upd hp1)) .nil
    rintro m σ H' ⟨es, us, x, rfl, S, h1, hw, hge, hwe, rfl⟩
    have hul := hw.length
    rw [List.length_map] at hul
    have hwl := wes_len es
    refine ⟨_, rfl, p1, _, rfl, .inl (SqL.of h1), _, _, rfl, rfl, _, rfl, ?_⟩
    cases es with
    | nil =>
      have := hw.nil_eq
      subst this
      rw [decide_eq_false (show ¬ ((0 : Int) < ((([] : List V).reverse.length : Nat) : Int)) by decide)]
      exact iteF (k H' S)
    | cons e0 es =>
      obtain ⟨u, us, rfl, hu0, hw⟩ := hw.cons_eq
      rw [decide_eq_true (show (0 : Int) < (((u :: us).reverse.length : Nat) : Int) by simp)]
      refine iteT ?_
      refine ⟨fun σ' H1 => ∃ (es' : List E) (us' : List V) (x' : Option V), σ' = [some v, some (.ref a), some (.ref d), some (.ref p1), x'] ∧ Same H H1 ∧ H1 p1 = some (.lst us'.reverse) ∧ Reps K H1 (es'.map E.t) us' ∧ (∀ e ∈ es', GoodE c ps e) ∧ wes es' ≤ 1000000 ∧ wes es' < wes (e0 :: es), ?_, ?_⟩
      · rintro σ' H1 ⟨es', us', x', rfl, b1, b2, b3, b4, b5, b6⟩
        exact ⟨_, b6, es', us', x', rfl, b1, b2, b3, b4, b5, rfl⟩
      have hwts : wes (e0 :: es) = e0.t.size + wes es := by simp [wes]
      refine ⟨_, rfl, .inl ⟨rfl, _, SqL.of h1⟩, p1, _, _, rfl, rfl, h1, rev_last _ _, ?_⟩
      rw [dropLast_rev]
      have tt : Tups H' (upd H' p1 (.lst us.reverse)) := Tups.upd h1 trivial
      have S1 : Same H (upd H' p1 (.lst us.reverse)) := S.upd hp1
      have g1 : upd H' p1 (.lst us.reverse) p1 = some (.lst us.reverse) := upd_same
      have gw : Reps K (upd H' p1 (.lst us.reverse)) (es.map E.t) us := hw.tups tt
      have gu : Rep K (upd H' p1 (.lst us.reverse)) e0.t u := hu0.tups tt
      clear hw hu0 h1 S
      generalize upd H' p1 (.lst us.reverse) = H2 at *
      have hgt : ∀ e ∈ es, GoodE c ps e := fun e he => hge e (List.mem_cons_of_mem _ he)
      refine ⟨_, rfl, u, _, rfl, gu, _, rfl, ?_⟩
      have hdS : H2 d = some (.dK kvs) := S1 _ _ hd
      cases hge e0 List.mem_cons_self with
      | @v x0 hx0 =>
        have := gu.w_eq
        subst this
        refine iteT ⟨_, rfl, _, rfl, a, _, rfl, .inr (hT.same S1), rfl, flat_strs _, ?_⟩
        have e9 : (if true = true then !decide (x0 ∈ ps) else decide (x0 ∈ ps)) = false := by rw [decide_eq_true hx0]; rfl
        rw [inV_strs, e9]
        refine ⟨_, rfl, iteF ⟨es, us, _, rfl, S1, g1, gw, hgt, by omega, ?_⟩⟩
        rw [hwts]
        have := size_pos (E.v x0).t
        omega
      | @q t0 =>
        obtain ⟨ua, ys, rfl, hyT, hys⟩ := gu.l_eq
        obtain ⟨y0, r0, rfl, e1, hys⟩ := hys.cons_eq
        obtain ⟨y1, r1, rfl, e2, hys⟩ := hys.cons_eq
        have e3 := hys.nil_eq
        subst e3
        have e4 := e1.w_eq
        subst e4
        refine iteF ⟨_, rfl, ua, _, rfl, .inr hyT, rfl, ?_⟩
        rw [decide_eq_false (show ¬ V.int ((([.str sQuote, y1] : List V).length : Nat) : Int) = V.int 0 from fun q => by simp at q)]
        refine ⟨_, rfl, iteF ?_⟩
        refine ⟨_, rfl, ua, _, _, _, rfl, rfl, hyT, at0, _, .w sQuote, rfl, .w, _, rfl, iteF ?_⟩
        have hck : valV kvs (.inr sQuote) = some (.int 1) := by rw [hc, hcq]; rfl
        have hdg : DGet H2 d (.str sQuote) (some (.int 1)) := by rw [← hck]; exact DGet.k (k := .inr sQuote) hdS
        refine ⟨_, rfl, d, rfl, .inl ⟨kvs, .inl hdS⟩, _, rfl, ua, _, _, _, rfl, rfl, hyT, at0, _, hdg, ?_⟩
        refine ⟨_, rfl, ua, _, rfl, .inr hyT, _, _, rfl, rfl, rfl, ?_⟩
        rw [decide_eq_true (show (some (V.int 1)).getD .non = V.int (((([.str sQuote, y1] : List V).length : Nat) : Int) - 1) from by simp)]
        refine ⟨_, rfl, iteF ?_⟩
        refine ⟨_, rfl, ua, _, _, _, rfl, rfl, hyT, at0, rfl, ?_⟩
        rw [decide_eq_true (show V.str sQuote = V.str "quote" from rfl)]
        refine ⟨_, rfl, iteF ⟨es, us, _, rfl, S1, g1, gw, hgt, by omega, ?_⟩⟩
        rw [hwts]
        have := size_pos (E.q t0).t
        omega
      | @app w0 as hq hcw has =>
        rw [E.t_app] at gu
        obtain ⟨ua, ys, rfl, hyT, hys⟩ := gu.l_eq
        obtain ⟨y0, zs, rfl, e1, hzs⟩ := hys.cons_eq
        have e4 := e1.w_eq
        subst e4
        have hyl := hzs.length
        rw [List.length_map] at hyl
        have hwa := wes_app w0 as
        have hal := wes_len as
        refine iteF ⟨_, rfl, ua, _, rfl, .inr hyT, rfl, ?_⟩
        rw [decide_eq_false (show ¬ V.int (((V.str w0 :: zs).length : Nat) : Int) = V.int 0 from fun q => by have := V.int.inj q; simp at this; omega)]
        refine ⟨_, rfl, iteF ?_⟩
        refine ⟨_, rfl, ua, _, _, _, rfl, rfl, hyT, at0, _, .w w0, rfl, .w, _, rfl, iteF ?_⟩
        have hck : valV kvs (.inr w0) = some (.int (as.length : Nat)) := by rw [hc, hcw]; rfl
        have hdg : DGet H2 d (.str w0) (some (.int (as.length : Nat))) := by rw [← hck]; exact DGet.k (k := .inr w0) hdS
        refine ⟨_, rfl, d, rfl, .inl ⟨kvs, .inl hdS⟩, _, rfl, ua, _, _, _, rfl, rfl, hyT, at0, _, hdg, ?_⟩
        refine ⟨_, rfl, ua, _, rfl, .inr hyT, _, _, rfl, rfl, rfl, ?_⟩
        rw [decide_eq_true (show (some (V.int (as.length : Nat))).getD .non = V.int ((((V.str w0 :: zs).length : Nat) : Int) - 1) from by
          rw [Option.getD_some, List.length_cons, hyl]; congr 1; omega)]
        refine ⟨_, rfl, iteF ?_⟩
        refine ⟨_, rfl, ua, _, _, _, rfl, rfl, hyT, at0, rfl, ?_⟩
        rw [decide_eq_false (show ¬ V.str w0 = V.str "quote" from fun q => hq (V.str.inj q))]
        refine ⟨_, rfl, iteT ⟨_, rfl, .inl ⟨rfl, _, SqL.of g1⟩, _, rfl, _, rfl, ua, _, rfl, hyT, fun b H3 S3 hT3 => ?_⟩⟩
        have ecut : cutV (V.str w0 :: zs) (some 1) none = zs := cutV_drop _ 1
        rw [ecut] at hT3
        refine ⟨p1, b, us.reverse, zs, rfl, rfl, S3 _ _ g1, hT3, by rw [List.length_reverse]; simp only [List.length_cons] at hul hwl; omega, ?_⟩
        have h31 := S3 _ _ g1
        have tt3 : Tups H2 (upd H3 p1 (.lst (us.reverse ++ zs))) := S3.tups.trans (Tups.upd h31 trivial)
        refine ⟨as.reverse ++ es, zs.reverse ++ us, _, rfl, (S1.trans S3).upd hp1, by rw [upd_same, List.reverse_append, List.reverse_reverse], ?_, ?_, ?_, ?_⟩
        · rw [List.map_append, List.map_reverse]
          exact (reps_reverse (hzs.tups tt3)).append (gw.tups tt3)
        · intro e he
          rcases List.mem_append.mp he with he | he
          · exact has e (List.mem_reverse.mp he)
          · exact hgt e he
        · rw [wes_append, wes_reverse]; omega
        · rw [wes_append, wes_reverse, hwts]; omega
theorem ok_checkProgram {f fW fC fH fN fP fB : Addr} {fd fdW fdC fdH fdN fdP fdB : FuncData} (B : Bl mg) (D : Dfn K mg "check_program" sCheckProgram ["value"] f fd)
    (DW : Dfn K mg "is_word" sIsWord ["value"] fW fdW) (GW : FnOk P w K mg base CX0 3 fW fdW ["value"] (spIsWord K))
    (DC : Dfn K mg "counts_of" sCountsOf ["program"] fC fdC) (GC : FnOk P w K mg base CX0 3 fC fdC ["program"] (spCountsOf K))
    (DH : Dfn K mg "has_head" sHasHead ["function"] fH fdH) (GH : FnOk P w K mg base CX0 3 fH fdH ["function"] (spHasHead K))
    (DN : Dfn K mg "name_fits" sNameFits ["name", "names", "many"] fN fdN) (GN : FnOk P w K mg base CX0 3 fN fdN ["name", "names", "many"] spNameFits)
    (DP : Dfn K mg "parameters_fit" sParametersFit ["parameters"] fP fdP) (GP : FnOk P w K mg base CX0 3 fP fdP ["parameters"] (spParametersFit K))
    (DB : Dfn K mg "body_fits" sBodyFits ["body", "parameters", "counts"] fB fdB) (GB : FnOk P w K mg base CX0 3 fB fdB ["body", "parameters", "counts"] (spBodyFits K)) :
    FnOk P w K mg base CX0 4 f fd ["value"] (spCheckProgram K) := by
  refine D.F.ok sc_sCheckProgram (fun vs H Q XE h => ?_) (fun cdv A outer s H vs Q XE hr h => ?_)
  · obtain ⟨v, p, rfl, _⟩ := h
    rfl
  · obtain ⟨v, p, rfl, hv, hp, k⟩ := h
    have nd := sc_sCheckProgram.nd
    have hu := hu_of hr
    refine ⟨_,
      (pss_cons (ps_if (PW.pt (pw_or (pt_val (pe_call GW hr (by rfl) DW.g DW.F.kp DW.b .nil pass0 (pa_cons (pv 0) pa_nil))) (pw_or1 (pt_cmpR op_eq (pe_callB call_len_seq (by rfl) B.len PySem.boot_len (pa_cons (pv 0) pa_nil)) pe_int (nomark _)))))
      pss_never
      pss_nil)
      (pss_cons (ps_set (i := 1) nd rfl (.inl rfl) (pe_call GC hr (by rfl) DC.g DC.F.kp DC.b .nil pass0 (pa_cons (pv 0) pa_nil)))
      (pss_cons (ps_set (i := 2) nd rfl (.inl rfl) pe_dnewK)
      (pss_one (ps_for PassesOwn.never rfl (pi_enumT (by rfl) B.enumerate (pa_cons (pv 0) pa_nil)) (pg_tup (by rfl) (pgs_cons (pg_name (i := 3) nd rfl (.inl rfl)) (pgs_cons (pg_name (i := 4) nd rfl (.inl rfl)) pgs_nil)))
      (pss_cons (ps_if (pt_not (pt_val (pe_call GH hr (by rfl) DH.g DH.F.kp DH.b .nil pass0 (pa_cons (pv 4) pa_nil))))
      pss_never
      pss_nil)
      (pss_cons (ps_asg (pv 4) (pg_tup (by rfl) (pgs_cons (pg_name (i := 5) nd rfl (.inl rfl)) (pgs_cons (pg_name (i := 6) nd rfl (.inl rfl)) (pgs_cons (pg_name (i := 7) nd rfl (.inl rfl)) pgs_nil)))))
      (pss_cons (ps_if (PW.pt (pw_or (pt_not (pt_val (pe_call GN hr (by rfl) DN.g DN.F.kp DN.b .nil pass0 (pa_cons (pv 5) (pa_cons (pv 2) (pa_cons (pe_callB call_len_seq (by rfl) B.len PySem.boot_len (pa_cons (pv 0) pa_nil)) pa_nil)))))) (pw_or1 (pt_not (pt_val (pe_call GP hr (by rfl) DP.g DP.F.kp DP.b .nil pass0 (pa_cons (pv 6) pa_nil)))))))
      pss_never
      pss_nil)
      (pss_cons (ps_if (pt_not (pt_val (pe_call GB hr (by rfl) DB.g DB.F.kp DB.b .nil pass0 (pa_cons (pv 7) (pa_cons (pv 6) (pa_cons (pv 1) pa_nil))))))
      pss_never
      pss_nil)
      (pss_one (ps_dput hu (pv 2) (pv 5) pe_bl rfl)))))))))))
      , ?_⟩
    have hs : sizeLine = 16777216 := rfl
    have hple := hp.le
    obtain ⟨a, xs, rfl, hT, hxs⟩ := (show Rep K H (.l (p.map Fn.t)) v from hv).l_eq
    have hxl := hxs.length
    rw [List.length_map] at hxl
    have hp0 : p.length ≠ 0 := fun e => hp.ne (List.length_eq_zero_iff.mp e)
    refine ⟨_, rfl, .ref a, _, rfl, hv, _, rfl, iteF ⟨_, rfl, a, _, rfl, .inr hT, rfl, ?_⟩⟩
    rw [decide_eq_false (show ¬ V.int ((xs.length : Nat) : Int) = V.int 0 from fun q => by have := V.int.inj q; omega)]
    refine ⟨_, rfl, iteF ?_⟩
    refine ⟨_, rfl, .ref a, p, rfl, hv, hp.nd, hp.sp, by omega, fun d H1 kvs S1 hd hd0 hc => ?_⟩
    refine fun dn hdn => ?_
    have n1 : d ≠ dn := ne_of_none hd hdn
    have hdn0 : H dn = none := S1.free hdn
    refine ⟨_, rfl, a, _, rfl, hT.same (S1.upd hdn0), ?_⟩
    have S2 : Same H (upd H1 dn (.dK [])) := S1.upd hdn0
    refine for_F (fun i σ' H' => ∃ (ns : List (Key × V)) (x3 x4 x5 x6 x7 : Option V), σ' = [some (.ref a), some (.ref d), some (.ref dn), x3, x4, x5, x6, x7] ∧ Same H H' ∧ H' d = some (.dK kvs) ∧ H' dn = some (.dK ns) ∧ ns.length ≤ i ∧
      ∀ j g, i ≤ j → p[j]? = some g → valV ns (.inr g.name) = none) ?_ ?_ ?_ ?_
    · exact ⟨[], _, _, _, _, _, rfl, S2, by rw [upd_ne n1]; exact hd, upd_same, Nat.zero_le _, fun _ _ _ _ => rfl⟩
    · rintro i σ' H' hi ⟨ns, x3, x4, x5, x6, x7, rfl, S, _⟩
      exact hT.same S
    · rintro i vs' T0 σ' H' hi ⟨z, hz, rfl⟩ ⟨ns, x3, x4, x5, x6, x7, rfl, S, c1, c2, c3, c4⟩ hT0
      obtain ⟨t, ht, hyr⟩ := hxs.getV hz
      rw [List.getElem?_map, Option.map_eq_some_iff] at ht
      obtain ⟨g, hg, rfl⟩ := ht
      have hgm : g ∈ p := List.mem_of_getElem? hg
      refine ⟨T0, _, rfl, SqT.of upd_same, rfl, _, _, rfl, _, _, rfl, rfl, ?_⟩
      have m1 : d ≠ T0 := ne_of_none c1 hT0
      have m2 : dn ≠ T0 := ne_of_none c2 hT0
      have S3 : Same H (upd H' T0 (.tup [.int ((i : Nat) : Int), z])) := S.upd (S.free hT0)
      have k1 : upd H' T0 (.tup [.int ((i : Nat) : Int), z]) d = some (.dK kvs) := by rw [upd_ne m1]; exact c1
      have k2 : upd H' T0 (.tup [.int ((i : Nat) : Int), z]) dn = some (.dK ns) := by rw [upd_ne m2]; exact c2
      clear c1 c2 S
      generalize upd H' T0 (.tup [.int ((i : Nat) : Int), z]) = H2 at *
      obtain ⟨ya, ys, rfl, hyT, hys⟩ := (hyr.same S3).l_eq
      obtain ⟨y0, r0, rfl, e0, hys⟩ := hys.cons_eq
      obtain ⟨y1, r1, rfl, e1, hys⟩ := hys.cons_eq
      obtain ⟨y2, r2, rfl, e2, hys⟩ := hys.cons_eq
      have e3 := hys.nil_eq
      subst e3
      have e0 := e0.w_eq
      subst e0
      obtain ⟨pa, ps, rfl, hpT, hps⟩ := e1.l_eq
      have hps := hps.words_eq
      subst hps
      refine ⟨_, rfl, .ref ya, g, rfl, hyr.same S3, _, rfl, iteF ?_⟩
      refine ⟨_, rfl, ya, _, rfl, hyT, rfl, _, _, rfl, _, _, rfl, _, _, rfl, rfl, ?_⟩
      have hgi : valV ns (.inr g.name) = none := c4 i g (Nat.le_refl _) hg
      have hcq : counts p sQuote = some 1 := rfl
      refine ⟨_, rfl, _, rfl, _, rfl, a, _, rfl, .inr (hT.same S3), g.name, dn, ns, p.length, by rw [hxl]; rfl, k2, hgi, hp.sp g hgm, hp.fit g hgm, Nat.le_trans (hp.nl g hgm) (by omega), _, rfl, iteF ?_⟩
      refine ⟨_, rfl, pa, g.ps, rfl, hpT, hp.ps g hgm, fun H3 S4 => ⟨_, rfl, iteF ?_⟩⟩
      refine ⟨_, rfl, _, rfl, _, rfl, y2, pa, d, g.body, g.ps, counts p, kvs, rfl, e2.same S4, hpT.same S4, S4 _ _ k1, hc, hcq, hp.body g hgm, hp.size g hgm, fun H4 S5 => ⟨_, rfl, iteF ?_⟩⟩
      have q1 : H4 d = some (.dK kvs) := S5 _ _ (S4 _ _ k1)
      have q2 : H4 dn = some (.dK ns) := S5 _ _ (S4 _ _ k2)
      refine ⟨_, rfl, _, rfl, dn, _, rfl, DPut.k (k := .inr g.name) q2 (by omega), ?_⟩
      refine ⟨_, _, _, _, _, _, rfl, ((S3.trans S4).trans S5).upd hdn0, by rw [upd_ne n1]; exact q1, upd_same, ?_, fun j g2 hj hg2 => ?_⟩
      · rw [putK_new _ hgi, List.length_append, List.length_singleton]; omega
      · rw [valV_put, if_neg, c4 j g2 (by omega) hg2]
        intro e
        have e := Sum.inr.inj e
        obtain ⟨b1, b2⟩ := List.getElem?_eq_some_iff.mp hg
        obtain ⟨b3, b4⟩ := List.getElem?_eq_some_iff.mp hg2
        have := List.pairwise_iff_getElem.mp hp.nd i j (by rw [List.length_map]; omega) (by rw [List.length_map]; omega) (by omega)
        rw [List.getElem_map, List.getElem_map, b2, b4] at this
        exact this e.symm
    · rintro σ' H' ⟨ns, x3, x4, x5, x6, x7, rfl, S, _⟩
      exact k H' S
theorem ok_inputsOf {f fC : Addr} {fd fdC : FuncData} (B : Bl mg) (D : Dfn K mg "inputs_of" sInputsOf ["program"] f fd)
    (DC : Dfn K mg "check_program" sCheckProgram ["value"] fC fdC) (GC : FnOk P w K mg base CX0 4 fC fdC ["value"] (spCheckProgram K)) :
    FnOk P w K mg base CX0 5 f fd ["program"] (spInputsOf K) := by
  refine D.F.ok sc_sInputsOf (fun vs H Q XE h => ?_) (fun cdv A outer s H vs Q XE hr h => ?_)
  · obtain ⟨v, g, p, rfl, _⟩ := h
    rfl
  · obtain ⟨v, g, p, rfl, hv, hp, k⟩ := h
    have nd := sc_sInputsOf.nd
    refine ⟨_,
      (pss_cons (ps_expr (pe_call GC hr (by rfl) DC.g DC.F.kp DC.b .nil pass0 (pa_cons (pv 0) pa_nil)))
      (pss_one (ps_ret (pe_callB call_len_seq (by rfl) B.len PySem.boot_len (pa_cons (pe_ix ix_tup (pe_ix ix_tup (pv 0) pe_int (fun _ _ => rfl)) pe_int (fun _ _ => rfl)) pa_nil)))))
      , ?_⟩
    refine ⟨_, rfl, v, _, rfl, hv, hp, fun H1 S => ?_⟩
    obtain ⟨a, xs, rfl, hT, hxs⟩ := (show Rep K H1 (.l (g.t :: p.map Fn.t)) v from hv.same S).l_eq
    obtain ⟨y0, r0, rfl, e0, hxs⟩ := hxs.cons_eq
    obtain ⟨ya, ys, rfl, hyT, hys⟩ := e0.l_eq
    obtain ⟨y0, r0, rfl, e0, hys⟩ := hys.cons_eq
    obtain ⟨y1, r1, rfl, e1, hys⟩ := hys.cons_eq
    obtain ⟨pa, ps, rfl, hpT, hps⟩ := e1.l_eq
    have hpl := hps.length
    rw [List.length_map] at hpl
    refine ⟨_, rfl, a, _, _, _, rfl, rfl, hT, at0, ya, _, _, _, rfl, rfl, hyT, at1, pa, _, rfl, .inr hpT, ?_⟩
    have := k H1 S
    rw [← hpl] at this
    exact this
end
end K46
/-! The store of values under numbers. -/
namespace K46
open PySem PySem.Spec PyProof.Rows L2

/-- what a key tells, over these values -/
def KeyT (vals : List T) : MK → T → Prop
  | .inl x, t => t = .w x
  | .inr p, t => ∃ (j l : Nat) (a : T) (as : List T), p = ((j : Int), (l : Int)) ∧ vals[j]? = some a ∧ vals[l]? = some (.l as) ∧ t = .l (a :: as)
/-- the entry of a number -/
def EntAt (K : PySem.W.Frag) (H : Hp) (vals : List T) (i : Nat) (u : V) : T → Prop
  | .w x => u = .str x
  | .l [] => ∃ a, u = .ref a ∧ SqT K H a []
  | .l (a :: as) => ∃ (p : Addr) (j l : Nat), u = .ref p ∧ H p = some (.tup [.int (j : Int), .int (l : Int)]) ∧ j < i ∧ l < i ∧ vals[j]? = some a ∧ vals[l]? = some (.l as)
/-- what is outside stays -/
structure Kp (L : List Addr) (H H' : Hp) : Prop where
  keep : ∀ b u, b ∉ L → H b = some u → H' b = some u
  dom : ∀ b, H' b = none → H b = none
def fieldsS (e nm sz dp : Addr) : List (Str × V) := [("entries", .ref e), ("numbers", .ref nm), ("sizes", .ref sz), ("depths", .ref dp)]
structure StAt (P : Program) (w : World) (K : PySem.W.Frag) (cS : Addr) (H : Hp) (s e nm sz dp : Addr) (vals : List T) : Prop where
  obj : ∃ dx, H s = some (.ins cS dx (fieldsS e nm sz dp))
  ents : ∃ us : List V, H e = some (.lst us) ∧ us.length = vals.length ∧ ∀ i t, vals[i]? = some t → ∃ u, us[i]? = some u ∧ EntAt K H vals i u t
  nums : ∃ xs : MX, MD P w H nm xs ∧ xs.length + 1 = vals.length ∧ ∀ k v, mval xs k = some v ↔ ∃ (i : Nat) (t : T), 1 ≤ i ∧ v = .int (i : Int) ∧ vals[i]? = some t ∧ KeyT vals k t
  szs : H sz = some (.lst (vals.map fun t => .int ((min t.size 200001 : Nat) : Int)))
  dps : H dp = some (.lst (vals.map fun t => .int ((min t.depth 201 : Nat) : Int)))
  nd : vals.Nodup
  zero : vals[0]? = some nil
  ne1 : e ≠ sz
  ne2 : e ≠ dp
  ne3 : sz ≠ dp
abbrev adS (e nm sz dp : Addr) : List Addr := [e, nm, sz, dp]

theorem Kp.refl {L : List Addr} {H : Hp} : Kp L H H := ⟨fun _ _ _ h => h, fun _ h => h⟩
theorem Kp.trans {L : List Addr} {H H1 H2 : Hp} (a : Kp L H H1) (b : Kp L H1 H2) : Kp L H H2 := ⟨fun x u n h => b.keep x u n (a.keep x u n h), fun x h => a.dom x (b.dom x h)⟩
theorem Kp.of_same {L : List Addr} {H H1 : Hp} (a : Same H H1) : Kp L H H1 := ⟨fun x u _ h => a x u h, fun x h => by
  cases e : H x with
  | none => rfl
  | some u => rw [a x u e] at h; cases h⟩
theorem Kp.upd {L : List Addr} {H H1 : Hp} {p : Addr} {o : HO} (a : Kp L H H1) (h : p ∈ L ∨ H p = none) : Kp L H (upd H1 p o) := by
  refine ⟨fun x u n e => ?_, fun x e => ?_⟩
  · have : x ≠ p := by
      rintro rfl
      rcases h with h | h
      · exact n h
      · rw [e] at h; cases h
    rw [upd_ne this]
    exact a.keep x u n e
  · by_cases q : x = p
    · subst q; rw [upd_same] at e; cases e
    · rw [upd_ne q] at e; exact a.dom x e
theorem Kp.mono {L M : List Addr} {H H1 : Hp} (a : Kp L H H1) (h : ∀ x ∈ L, x ∈ M) : Kp M H H1 := ⟨fun x u n e => a.keep x u (fun q => n (h x q)) e, a.dom⟩
/-- things that are new need no mention -/
theorem Kp.forget {L : List Addr} {H H1 : Hp} {p : Addr} (a : Kp (p :: L) H H1) (h : H p = none) : Kp L H H1 :=
  ⟨fun x u n e => a.keep x u (fun q => (List.mem_cons.mp q).elim (fun r => by subst r; rw [h] at e; cases e) n) e, a.dom⟩
theorem Kp.free {L : List Addr} {H H1 : Hp} (a : Kp L H H1) {p : Addr} (h : H1 p = none) : H p = none := a.dom p h
/-- no tuples among them -/
def NoTup (L : List Addr) (H : Hp) : Prop := ∀ b ∈ L, (∀ xs, H b ≠ some (.tup xs)) ∧ ∀ o xs, H b ≠ some (.frz o (.tup xs))
theorem Kp.tups {L : List Addr} {H H1 : Hp} (a : Kp L H H1) (n : NoTup L H) : Tups H H1 :=
  ⟨fun b xs h => a.keep b _ (fun q => (n b q).1 xs h) h, fun b o xs h => a.keep b _ (fun q => (n b q).2 o xs h) h⟩
theorem EntAt.mono {K : PySem.W.Frag} {H H' : Hp} {vals more : List T} {i : Nat} {u : V} {t : T} (h : EntAt K H vals i u t) (tt : Tups H H') : EntAt K H' (vals ++ more) i u t := by
  cases t with
  | w x => exact h
  | l as =>
    cases as with
    | nil => obtain ⟨a, e, hT⟩ := h; exact ⟨a, e, hT.tups tt⟩
    | cons a as =>
      obtain ⟨p, j, l, e, hp, h1, h2, h3, h4⟩ := h
      exact ⟨p, j, l, e, tt.1 _ _ hp, h1, h2, by rw [List.getElem?_append_left (List.getElem?_eq_some_iff.mp h3).1]; exact h3, by rw [List.getElem?_append_left (List.getElem?_eq_some_iff.mp h4).1]; exact h4⟩
theorem KeyT.mono {vals more : List T} {k : MK} {t : T} (h : KeyT vals k t) : KeyT (vals ++ more) k t := by
  cases k with
  | inl x => exact h
  | inr p =>
    obtain ⟨j, l, a, as, e, h3, h4, h5⟩ := h
    exact ⟨j, l, a, as, e, by rw [List.getElem?_append_left (List.getElem?_eq_some_iff.mp h3).1]; exact h3, by rw [List.getElem?_append_left (List.getElem?_eq_some_iff.mp h4).1]; exact h4, h5⟩
theorem nodup_get {α : Type} {l : List α} (nd : l.Nodup) {i j : Nat} {a : α} (h : l[i]? = some a) (k : l[j]? = some a) : i = j := by
  obtain ⟨h1, h2⟩ := List.getElem?_eq_some_iff.mp h
  obtain ⟨k1, k2⟩ := List.getElem?_eq_some_iff.mp k
  rcases Nat.lt_trichotomy i j with h3 | h3 | h3
  · exact absurd (h2.trans k2.symm) (List.pairwise_iff_getElem.mp nd i j h1 k1 h3)
  · exact h3
  · exact absurd (k2.trans h2.symm) (List.pairwise_iff_getElem.mp nd j i k1 h1 h3)
theorem KeyT.inj {vals : List T} (nd : vals.Nodup) {k k' : MK} {t : T} (h : KeyT vals k t) (h' : KeyT vals k' t) : k = k' := by
  cases k with
  | inl x =>
    cases k' with
    | inl y => exact congrArg Sum.inl (T.w.inj (h.symm.trans h'))
    | inr p => obtain ⟨_, _, _, _, _, _, _, e⟩ := h'; rw [show t = .w x from h] at e; cases e
  | inr p =>
    obtain ⟨j, l, a, as, e, h3, h4, h5⟩ := h
    cases k' with
    | inl y => rw [show t = .w y from h'] at h5; cases h5
    | inr q =>
      obtain ⟨j', l', a', as', e', h3', h4', h5'⟩ := h'
      rw [h5] at h5'
      cases h5'
      rw [e, e', nodup_get nd h3 h3', nodup_get nd h4 h4']
theorem KeyT.fn {vals : List T} {k : MK} {t t' : T} (h : KeyT vals k t) (h' : KeyT vals k t') : t = t' := by
  cases k with
  | inl x => exact (show t = .w x from h).trans (show t' = .w x from h').symm
  | inr p =>
    obtain ⟨j, l, a, as, e, h3, h4, h5⟩ := h
    obtain ⟨j', l', a', as', e', h3', h4', h5'⟩ := h'
    rw [e] at e'
    have e1 : j = j' := by have := congrArg Prod.fst e'; exact Int.ofNat.inj this
    have e2 : l = l' := by have := congrArg Prod.snd e'; exact Int.ofNat.inj this
    subst e1 e2
    rw [h3] at h3'
    rw [h4] at h4'
    cases h3'
    cases h4'
    rw [h5, h5']
theorem mval_put {xs : MX} {k k' : MK} {u v : V} (h : mval xs k = none) : mval (mPut xs k u v) k' = if k' = k then some v else mval xs k' := by
  unfold mPut
  unfold mval at h ⊢
  rw [List.find?_append]
  by_cases e : k' = k
  · subst e
    rw [if_pos rfl]
    rw [Option.map_eq_none_iff] at h
    rw [h]
    simp
  · rw [if_neg e]
    have : List.find? (fun x => decide (x.1 = k')) [(k, u, v)] = none := by rw [List.find?_cons, decide_eq_false (fun q => e q.symm)]; rfl
    rw [this]
    simp
section
variable {P : Program} {w : World} {K : PySem.W.Frag} {cS : Addr} {H H' : Hp} {s e nm sz dp : Addr} {vals : List T}
theorem StAt.noTup (h : StAt P w K cS H s e nm sz dp vals) : NoTup (adS e nm sz dp) H := by
  intro b hb
  obtain ⟨us, h1, _⟩ := h.ents
  obtain ⟨xs, h2, _⟩ := h.nums
  have h2 := h2.at_
  have h3 := h.szs
  have h4 := h.dps
  simp only [adS, List.mem_cons, List.not_mem_nil, or_false] at hb
  rcases hb with rfl | rfl | rfl | rfl
  · rw [h1]; exact ⟨(fun _ q => by cases q), (fun _ _ q => by cases q)⟩
  · rw [h2]; exact ⟨(fun _ q => by cases q), (fun _ _ q => by cases q)⟩
  · rw [h3]; exact ⟨(fun _ q => by cases q), (fun _ _ q => by cases q)⟩
  · rw [h4]; exact ⟨(fun _ q => by cases q), (fun _ _ q => by cases q)⟩
/-- a store that was not touched -/
theorem StAt.same (h : StAt P w K cS H s e nm sz dp vals) (S : Same H H') : StAt P w K cS H' s e nm sz dp vals := by
  obtain ⟨dx, ho⟩ := h.obj
  obtain ⟨us, h1, h2, h3⟩ := h.ents
  obtain ⟨xs, m, hl, hx⟩ := h.nums
  refine ⟨⟨dx, S _ _ ho⟩, ⟨us, S _ _ h1, h2, fun i t ht => ?_⟩, ⟨xs, m.mono ((S _ _ m.at_).trans m.at_.symm) (fun a ys q => S _ _ q), hl, hx⟩, S _ _ h.szs, S _ _ h.dps, h.nd, h.zero, h.ne1, h.ne2, h.ne3⟩
  obtain ⟨u, q1, q2⟩ := h3 i t ht
  refine ⟨u, q1, ?_⟩
  have := q2.mono (more := []) S.tups
  rwa [List.append_nil] at this
theorem StAt.pos (h : StAt P w K cS H s e nm sz dp vals) : 0 < vals.length := (List.getElem?_eq_some_iff.mp h.zero).1
/-- the items and the rests are there, under lower numbers -/
theorem StAt.closed (h : StAt P w K cS H s e nm sz dp vals) {i : Nat} {a : T} {as : List T} (hi : vals[i]? = some (.l (a :: as))) : ∃ j l : Nat, j < i ∧ l < i ∧ vals[j]? = some a ∧ vals[l]? = some (.l as) := by
  obtain ⟨us, h1, h2, h3⟩ := h.ents
  obtain ⟨u, _, p, j, l, _, _, h6, h7, h8, h9⟩ := h3 i _ hi
  exact ⟨j, l, h6, h7, h8, h9⟩
theorem StAt.not_mem (h : StAt P w K cS H s e nm sz dp vals) {xs : MX} (hx : ∀ k v, mval xs k = some v ↔ ∃ (i : Nat) (t : T), 1 ≤ i ∧ v = .int (i : Int) ∧ vals[i]? = some t ∧ KeyT vals k t) {k : MK} {t : T} (hk : KeyT vals k t) (hn : mval xs k = none) : t ∉ vals := by
  intro hm
  obtain ⟨i, hi⟩ := List.getElem?_of_mem hm
  have h1 : 1 ≤ i := by
    rcases Nat.eq_zero_or_pos i with rfl | h1
    · rw [h.zero] at hi
      cases hi
      cases k with
      | inl x => exact nomatch (show nil = T.w x from hk)
      | inr p => obtain ⟨_, _, _, _, _, _, _, e⟩ := hk; cases e
    · exact h1
  rw [(hx k (.int (i : Int))).mpr ⟨i, t, h1, rfl, hi, hk⟩] at hn
  cases hn
/-- a store with one more -/
theorem StAt.push (h : StAt P w K cS H s e nm sz dp vals) {us : List V} {xs : MX} (hl : us.length = vals.length) (hen : ∀ i t, vals[i]? = some t → ∃ u, us[i]? = some u ∧ EntAt K H vals i u t) (hxl : xs.length + 1 = vals.length)
    (hx : ∀ k v, mval xs k = some v ↔ ∃ (i : Nat) (t : T), 1 ≤ i ∧ v = .int (i : Int) ∧ vals[i]? = some t ∧ KeyT vals k t) {k : MK} {u : V} {t : T} (hk : KeyT vals k t) (hn : mval xs k = none)
    (tt : Tups H H') (hkey : KeyAt H' k u) (o' : ∃ dx, H' s = some (.ins cS dx (fieldsS e nm sz dp)))
    (h1' : H' e = some (.lst (us ++ [u]))) (m' : MD P w H' nm (mPut xs k u (.int (vals.length : Nat)))) (h3' : H' sz = some (.lst (vals.map (fun t => V.int ((min t.size 200001 : Nat) : Int)) ++ [.int ((min t.size 200001 : Nat) : Int)])))
    (h4' : H' dp = some (.lst (vals.map (fun t => V.int ((min t.depth 201 : Nat) : Int)) ++ [.int ((min t.depth 201 : Nat) : Int)]))) : StAt P w K cS H' s e nm sz dp (vals ++ [t]) := by
  have hnm := h.not_mem hx hk hn
  have hnd : (vals ++ [t]).Nodup := by
    rw [List.nodup_append]
    exact ⟨h.nd, by simp, fun a ha b hb => by rw [List.mem_singleton.mp hb]; intro q; exact hnm (q ▸ ha)⟩
  have hself : (vals ++ [t])[vals.length]? = some t := by rw [List.getElem?_append_right (Nat.le_refl _), Nat.sub_self]; rfl
  have hpos := h.pos
  refine ⟨o', ⟨us ++ [u], h1', by rw [List.length_append, List.length_append, hl]; rfl, fun i t' ht => ?_⟩, ⟨_, m', by unfold mPut; rw [List.length_append, List.length_append, List.length_singleton, List.length_singleton, hxl], fun k' v => ?_⟩, by rw [h3', List.map_append]; rfl, by rw [h4', List.map_append]; rfl,
    hnd, by rw [List.getElem?_append_left hpos]; exact h.zero, h.ne1, h.ne2, h.ne3⟩
  · rcases Nat.lt_or_ge i vals.length with hi | hi
    · rw [List.getElem?_append_left hi] at ht
      obtain ⟨u', q1, q2⟩ := hen i t' ht
      exact ⟨u', by rw [List.getElem?_append_left (by omega)]; exact q1, q2.mono tt⟩
    · have hi2 : i = vals.length := by
        have := (List.getElem?_eq_some_iff.mp ht).1
        rw [List.length_append, List.length_singleton] at this
        omega
      subst hi2
      rw [hself] at ht
      cases ht
      refine ⟨u, by rw [← hl, List.getElem?_append_right (Nat.le_refl _), Nat.sub_self]; rfl, ?_⟩
      cases k with
      | inl x =>
        cases (show t = .w x from hk)
        exact hkey
      | inr p =>
        obtain ⟨j, l, a, as, rfl, q3, q4, rfl⟩ := hk
        obtain ⟨b, rfl, hb⟩ := hkey
        exact ⟨b, j, l, rfl, hb, (List.getElem?_eq_some_iff.mp q3).1, (List.getElem?_eq_some_iff.mp q4).1, by rw [List.getElem?_append_left (List.getElem?_eq_some_iff.mp q3).1]; exact q3, by rw [List.getElem?_append_left (List.getElem?_eq_some_iff.mp q4).1]; exact q4⟩
  · rw [mval_put hn]
    constructor
    · intro hv
      by_cases e : k' = k
      · rw [if_pos e] at hv
        cases hv
        subst e
        exact ⟨vals.length, t, hpos, rfl, hself, hk.mono⟩
      · rw [if_neg e] at hv
        obtain ⟨i, t', q1, q2, q3, q4⟩ := (hx k' v).mp hv
        exact ⟨i, t', q1, q2, by rw [List.getElem?_append_left (List.getElem?_eq_some_iff.mp q3).1]; exact q3, q4.mono⟩
    · rintro ⟨i, t', q1, rfl, q3, q4⟩
      rcases Nat.lt_or_ge i vals.length with hi | hi
      · rw [List.getElem?_append_left hi] at q3
        have q5 : KeyT vals k' t' := by
          cases k' with
          | inl x => exact q4
          | inr p =>
            obtain ⟨j, l, a, as, rfl, q6, q7, rfl⟩ := q4
            obtain ⟨j', l', _, _, r1, r2⟩ := h.closed q3
            have r3 : (vals ++ [t])[j']? = some a := by rw [List.getElem?_append_left (List.getElem?_eq_some_iff.mp r1).1]; exact r1
            have r4 : (vals ++ [t])[l']? = some (.l as) := by rw [List.getElem?_append_left (List.getElem?_eq_some_iff.mp r2).1]; exact r2
            have e1 := nodup_get hnd q6 r3
            have e2 := nodup_get hnd q7 r4
            subst e1 e2
            exact ⟨j, l, a, as, rfl, r1, r2, rfl⟩
        have q6 : mval xs k' = some (.int (i : Int)) := (hx _ _).mpr ⟨i, t', q1, rfl, q3, q5⟩
        rw [if_neg, q6]
        rintro rfl
        rw [hn] at q6
        cases q6
      · have hi2 : i = vals.length := by
          have := (List.getElem?_eq_some_iff.mp q3).1
          rw [List.length_append, List.length_singleton] at this
          omega
        subst hi2
        rw [hself] at q3
        cases q3
        rw [if_pos (KeyT.inj hnd q4 hk.mono)]
end
end K46
/-! Store: __init__, number_of, is_word, first, rest, pair_up. -/
namespace K46
open PySem PySem.Spec PyProof.Rows L2

/-- a method -/
structure MDf (K : PySem.W.Frag) (C : Addr) (x qual : Str) (st : Stmt) (ps : List Str) (f : Addr) (fd : FuncData) : Prop where
  F : Fun K x qual st f fd
  m : Meth K C x f
  b : Binds K fd ps []
/-- the class Store, and its constants -/
structure TxtS (K : PySem.W.Frag) (mg : Str → Option Value) (cS : Addr) : Prop where
  cl : Cls K cS
  nE : NoAttr K cS "entries"
  nN : NoAttr K cS "numbers"
  nS : NoAttr K cS "sizes"
  nD : NoAttr K cS "depths"
  empty : ∃ t, mg "EMPTY" = some (.int 0 t)
  parts : ∃ t, mg "MOST_PARTS" = some (.int 200000 t)
  depth : ∃ t, mg "MOST_DEPTH" = some (.int 200 t)
theorem szE (a b : Nat) : (if ((200000 : Int) + 1) < ((min a 200001 : Nat) : Int) + ((min b 200001 : Nat) : Int) then (200000 : Int) + 1 else ((min a 200001 : Nat) : Int) + ((min b 200001 : Nat) : Int)) = ((min (a + b) 200001 : Nat) : Int) := by
  split <;> omega
theorem dpE (a b : Nat) : (if ((200 : Int) + 1) < (if ((min b 201 : Nat) : Int) > ((min a 201 : Nat) : Int) + 1 then ((min b 201 : Nat) : Int) else ((min a 201 : Nat) : Int) + 1) then (200 : Int) + 1 else (if ((min b 201 : Nat) : Int) > ((min a 201 : Nat) : Int) + 1 then ((min b 201 : Nat) : Int) else ((min a 201 : Nat) : Int) + 1)) = ((min (max (a + 1) b) 201 : Nat) : Int) := by
  split <;> split <;> omega
/-- isinstance(u, str), u a text or a tuple -/
def StrTup (K : PySem.W.Frag) (H : Hp) (v : V) (b : Bool) : Prop := (∃ x, v = .str x ∧ b = true) ∨ ∃ a ys, v = .ref a ∧ SqT K H a ys ∧ b = false
def rIsStrV (K : PySem.W.Frag) : List V → Hp → VK → Prop := fun xs H Q => ∃ v b, xs = [v, .ty "str"] ∧ StrTup K H v b ∧ Q (.bl b) H
theorem call_isStrV {X : Cx} : CallR X (.builtin "isinstance") (rIsStrV X.K) := by
  intro pins s σ H xs us Q I r ⟨v, b, e, h, k⟩
  rcases h with ⟨x, rfl, rfl⟩ | ⟨a, ys, rfl, h2, rfl⟩
  · exact call_isi pins s σ H xs us Q I r ⟨_, _, _, _, true, e, .ty _, .base (.str x), kit_ty (by decide +kernel), k⟩
  · exact call_isi pins s σ H xs us Q I r ⟨_, _, _, _, false, e, .ty _, SqT.ty h2, kit_ty (by decide +kernel), k⟩
theorem EntAt.isW {K : PySem.W.Frag} {H : Hp} {vals : List T} {i : Nat} {u : V} {t : T} (h : EntAt K H vals i u t) : StrTup K H u (isW t) := by
  cases t with
  | w x => exact .inl ⟨x, h, rfl⟩
  | l as =>
    cases as with
    | nil => obtain ⟨a, e, hT⟩ := h; exact .inr ⟨a, _, e, hT, rfl⟩
    | cons a as => obtain ⟨p, j, l, e, hp, _⟩ := h; exact .inr ⟨p, _, e, SqT.of hp, rfl⟩

/-- what a store-changing step hands on: n is the number of t -/
def StNext (P : Program) (w : World) (K : PySem.W.Frag) (cS : Addr) (H : Hp) (s e nm sz dp : Addr) (vals : List T) (d : Nat) (t : T) (Q : VK) : Prop :=
  ∀ (H' : Hp) (more : List T) (n : Nat), Kp (adS e nm sz dp) H H' → StAt P w K cS H' s e nm sz dp (vals ++ more) → more.length ≤ d → (vals ++ more)[n]? = some t → Q (.int ((n : Nat) : Int)) H'
def spNumberOf (P : Program) (w : World) (K : PySem.W.Frag) (cS : Addr) : Sp := fun vs H Q _ => ∃ (s e nm sz dp : Addr) (vals : List T) (v : V) (k : MK) (t : T), vs = [.ref s, v] ∧ StAt P w K cS H s e nm sz dp vals ∧ KeyAt H k v ∧ KeyT vals k t ∧ vals.length ≤ 1000000 ∧
  StNext P w K cS H s e nm sz dp vals 1 t Q
def spSIsWord (P : Program) (w : World) (K : PySem.W.Frag) (cS : Addr) : Sp := fun vs H Q _ => ∃ (s e nm sz dp : Addr) (vals : List T) (n : Nat) (t : T), vs = [.ref s, .int (n : Int)] ∧ StAt P w K cS H s e nm sz dp vals ∧ vals[n]? = some t ∧ Q (.bl (isW t)) H
def spFirst (P : Program) (w : World) (K : PySem.W.Frag) (cS : Addr) : Sp := fun vs H Q _ => ∃ (s e nm sz dp : Addr) (vals : List T) (n : Nat) (t : T), vs = [.ref s, .int (n : Int)] ∧ StAt P w K cS H s e nm sz dp vals ∧ vals[n]? = some t ∧ ∀ m : Nat, vals[m]? = some (tHead t) → Q (.int (m : Int)) H
def spRest (P : Program) (w : World) (K : PySem.W.Frag) (cS : Addr) : Sp := fun vs H Q _ => ∃ (s e nm sz dp : Addr) (vals : List T) (n : Nat) (t : T), vs = [.ref s, .int (n : Int)] ∧ StAt P w K cS H s e nm sz dp vals ∧ vals[n]? = some t ∧ ∀ m : Nat, vals[m]? = some (tTail t) → Q (.int (m : Int)) H
def spPairUp (P : Program) (w : World) (K : PySem.W.Frag) (cS : Addr) : Sp := fun vs H Q _ => ∃ (s e nm sz dp : Addr) (vals : List T) (n m : Nat) (t u : T), vs = [.ref s, .int (n : Int), .int (m : Int)] ∧ StAt P w K cS H s e nm sz dp vals ∧ vals[n]? = some t ∧ vals[m]? = some u ∧ vals.length ≤ 1000000 ∧
  StNext P w K cS H s e nm sz dp vals 1 (tJoin t u) Q

abbrev sNumberOf : Stmt := inClass (top 30) 1
theorem sc_sNumberOf : FnScope ["self", "entry", "item", "items"] ["self", "entry"] (defScope sNumberOf) := ⟨rfl, rfl, rfl, by decide +kernel, rfl, by decide +kernel, by decide +kernel⟩
section
variable {P : Program} {w : World} {K : PySem.W.Frag} {mg : Str → Option Value} {base : Heap} {cS : Addr}
theorem ok_numberOf {f : Addr} {fd : FuncData} (B : Bl mg) (TS : TxtS K mg cS) (D : MDf K cS "number_of" "Store.number_of" sNumberOf ["self", "entry"] f fd) : FnOk P w K mg base CX0 1 f fd ["self", "entry"] (spNumberOf P w K cS) := by
  refine D.F.ok sc_sNumberOf (fun vs H Q XE h => ?_) (fun cdv A outer st H vs Q XE hr h => ?_)
  · obtain ⟨s, e, nm, sz, dp, vals, v, k, t, rfl, _⟩ := h
    rfl
  · obtain ⟨s, e, nm, sz, dp, vals, v, k, t, rfl, hst, hkey, hk, hlen, kn⟩ := h
    have nd := sc_sNumberOf.nd
    have hu := hu_of hr
    obtain ⟨tP, eP⟩ := TS.parts
    obtain ⟨tD, eD⟩ := TS.depth
    refine ⟨_,
      (pss_cons (ps_if (pt_cmpR (op_mnotIn hu) (pv 1) (pe_fld (pv 0) rfl) (by rfl))
      (pss_cons (ps_mput hu (pe_fld (pv 0) rfl) (pv 1) (pe_callB call_len_seq (by rfl) B.len PySem.boot_len (pa_cons (pe_fld (pv 0) rfl) pa_nil)) rfl)
      (pss_cons (ps_expr (pe_bm PySem.F.plainAttrs_list PySem.F.slot_list_append PySem.F.type_list_append mt_append (pe_fld (pv 0) rfl) (pa_cons (pv 1) pa_nil)))
      (pss_one (ps_if (pt_val (pe_callB call_isStrV (by rfl) B.isinstance PyProof.Rows.boot_isinstance (pa_cons (pv 1) (pa_cons (pe_bltn (v := .ty "str") (by rfl) B.str PyProof.Rows.boot_str rfl) pa_nil))))
      (pss_cons (ps_expr (pe_bm PySem.F.plainAttrs_list PySem.F.slot_list_append PySem.F.type_list_append mt_append (pe_fld (pv 0) rfl) (pa_cons pe_int pa_nil)))
      (pss_one (ps_expr (pe_bm PySem.F.plainAttrs_list PySem.F.slot_list_append PySem.F.type_list_append mt_append (pe_fld (pv 0) rfl) (pa_cons pe_int pa_nil)))))
      (pss_cons (ps_asg (pv 1) (pg_tup (by rfl) (pgs_cons (pg_name (i := 2) nd rfl (.inl rfl)) (pgs_cons (pg_name (i := 3) nd rfl (.inl rfl)) pgs_nil))))
      (pss_cons (ps_expr (pe_bm PySem.F.plainAttrs_list PySem.F.slot_list_append PySem.F.type_list_append mt_append (pe_fld (pv 0) rfl) (pa_cons (pe_callB (call_min2 rfl) (by rfl) B.min PyProof.Rows.boot_min (pa_cons (pe_op op_add (pe_ix ix_list (pe_fld (pv 0) rfl) (pv 2) (fun _ _ => rfl)) (pe_ix ix_list (pe_fld (pv 0) rfl) (pv 3) (fun _ _ => rfl))) (pa_cons (pe_op op_add (pe_glob (v := .int 200000) (by rfl) eP ⟨_, rfl⟩) pe_int) pa_nil))) pa_nil)))
      (pss_one (ps_expr (pe_bm PySem.F.plainAttrs_list PySem.F.slot_list_append PySem.F.type_list_append mt_append (pe_fld (pv 0) rfl) (pa_cons (pe_callB (call_min2 rfl) (by rfl) B.min PyProof.Rows.boot_min (pa_cons (pe_callB (call_max2 rfl) (by rfl) B.max PyProof.Rows.boot_max (pa_cons (pe_op op_add (pe_ix ix_list (pe_fld (pv 0) rfl) (pv 2) (fun _ _ => rfl)) pe_int) (pa_cons (pe_ix ix_list (pe_fld (pv 0) rfl) (pv 3) (fun _ _ => rfl)) pa_nil))) (pa_cons (pe_op op_add (pe_glob (v := .int 200) (by rfl) eD ⟨_, rfl⟩) pe_int) pa_nil))) pa_nil))))))))))
      pss_nil)
      (pss_one (ps_ret (pe_mget hu (pe_fld (pv 0) rfl) (pv 1) (fun _ _ => rfl)))))
      , ?_⟩
    have hs : sizeLine = 16777216 := rfl
    obtain ⟨dx, ho⟩ := hst.obj
    obtain ⟨us, h1, hl, hen⟩ := hst.ents
    obtain ⟨xs, m, hxl, hx⟩ := hst.nums
    refine ⟨_, rfl, _, rfl, s, cS, dx, _, _, rfl, ho, TS.cl, TS.nN, rfl, nm, k, xs, rfl, hkey, m, ?_⟩
    cases hn : mval xs k with
    | some v0 =>
      refine ⟨_, rfl, iteF ⟨_, rfl, s, cS, dx, _, _, rfl, ho, TS.cl, TS.nN, rfl, _, rfl, nm, k, xs, v0, rfl, hkey, m, hn, ?_⟩⟩
      obtain ⟨i, t', q1, rfl, q3, q4⟩ := (hx _ _).mp hn
      have := KeyT.fn hk q4
      subst this
      exact kn H [] i Kp.refl (by rw [List.append_nil]; exact hst) (Nat.zero_le _) (by rw [List.append_nil]; exact q3)
    | none =>
      refine ⟨_, rfl, iteT ?_⟩
      refine ⟨_, rfl, s, cS, dx, _, _, rfl, ho, TS.cl, TS.nE, rfl, e, us, rfl, .inl (SqL.of h1), _, rfl, s, cS, dx, _, _, rfl, ho, TS.cl, TS.nN, rfl, _, rfl, nm, k, xs, rfl, hkey, m, hn, by omega, fun H4 e4 m4 => ?_⟩
      rw [hl] at e4 m4
      have nmE : e ≠ nm := fun q => by have := m.at_; rw [← q, h1] at this; cases this
      have nmZ : sz ≠ nm := fun q => by have := m.at_; rw [← q, hst.szs] at this; cases this
      have nmD : dp ≠ nm := fun q => by have := m.at_; rw [← q, hst.dps] at this; cases this
      have nsE : s ≠ e := fun q => by have := h1; rw [← q, ho] at this; cases this
      have nsN : s ≠ nm := fun q => by have := m.at_; rw [← q, ho] at this; cases this
      have nsZ : s ≠ sz := fun q => by have := hst.szs; rw [← q, ho] at this; cases this
      have nsD : s ≠ dp := fun q => by have := hst.dps; rw [← q, ho] at this; cases this
      have kp4 : Kp (adS e nm sz dp) H H4 := by rw [e4]; exact Kp.upd Kp.refl (.inl (by simp [adS]))
      have ho4 : H4 s = some (.ins cS dx (fieldsS e nm sz dp)) := by rw [e4, upd_ne nsN]; exact ho
      have h14 : H4 e = some (.lst us) := by rw [e4, upd_ne nmE]; exact h1
      have hz4 : H4 sz = some (.lst (vals.map fun t => V.int ((min t.size 200001 : Nat) : Int))) := by rw [e4, upd_ne nmZ]; exact hst.szs
      have hd4 : H4 dp = some (.lst (vals.map fun t => V.int ((min t.depth 201 : Nat) : Int))) := by rw [e4, upd_ne nmD]; exact hst.dps
      have tt4 := kp4.tups hst.noTup
      have hkey4 : KeyAt H4 k v := hkey.mono tt4.1
      refine ⟨_, rfl, s, cS, dx, _, _, rfl, ho4, TS.cl, TS.nE, rfl, .inl ⟨rfl, _, SqL.of h14⟩, _, rfl, e, _, _, rfl, rfl, h14, by omega, ?_⟩
      have ho5 : upd H4 e (.lst (us ++ [v])) s = some (.ins cS dx (fieldsS e nm sz dp)) := by rw [upd_ne nsE]; exact ho4
      have h15 : upd H4 e (.lst (us ++ [v])) e = some (.lst (us ++ [v])) := upd_same
      have hz5 : upd H4 e (.lst (us ++ [v])) sz = some (.lst (vals.map fun t => V.int ((min t.size 200001 : Nat) : Int))) := by rw [upd_ne hst.ne1.symm]; exact hz4
      have hd5 : upd H4 e (.lst (us ++ [v])) dp = some (.lst (vals.map fun t => V.int ((min t.depth 201 : Nat) : Int))) := by rw [upd_ne hst.ne2.symm]; exact hd4
      have kp5 : Kp (adS e nm sz dp) H (upd H4 e (.lst (us ++ [v]))) := kp4.upd (.inl (by simp [adS]))
      have tt5 := kp5.tups hst.noTup
      have m5 : MD P w (upd H4 e (.lst (us ++ [v]))) nm (mPut xs k v (.int (vals.length : Nat))) := m4.mono (upd_ne nmE.symm) (fun a ys q => by
        have : a ≠ e := fun z => by rw [z, h14] at q; cases q
        rw [upd_ne this]; exact q)
      clear m4 kp4 tt4
      generalize upd H4 e (.lst (us ++ [v])) = H5 at *
      have hkey5 : KeyAt H5 k v := hkey.mono tt5.1
      -- what is left, by the new size and depth
      have fin : ∀ H7, H7 = upd (upd H5 sz (.lst (vals.map (fun t => V.int ((min t.size 200001 : Nat) : Int)) ++ [.int ((min t.size 200001 : Nat) : Int)]))) dp (.lst (vals.map (fun t => V.int ((min t.depth 201 : Nat) : Int)) ++ [.int ((min t.depth 201 : Nat) : Int)])) →
          StAt P w K cS H7 s e nm sz dp (vals ++ [t]) ∧ Kp (adS e nm sz dp) H H7 ∧ KeyAt H7 k v ∧ MD P w H7 nm (mPut xs k v (.int (vals.length : Nat))) ∧ H7 s = some (.ins cS dx (fieldsS e nm sz dp)) := by
        rintro H7 rfl
        have kp7 : Kp (adS e nm sz dp) H (upd (upd H5 sz (.lst (vals.map (fun t => V.int ((min t.size 200001 : Nat) : Int)) ++ [.int ((min t.size 200001 : Nat) : Int)]))) dp (.lst (vals.map (fun t => V.int ((min t.depth 201 : Nat) : Int)) ++ [.int ((min t.depth 201 : Nat) : Int)]))) :=
          (kp5.upd (.inl (by simp [adS]))).upd (.inl (by simp [adS]))
        have tt7 := kp7.tups hst.noTup
        have hkey7 := hkey.mono tt7.1
        have ho7 : upd (upd H5 sz (.lst (vals.map (fun t => V.int ((min t.size 200001 : Nat) : Int)) ++ [.int ((min t.size 200001 : Nat) : Int)]))) dp (.lst (vals.map (fun t => V.int ((min t.depth 201 : Nat) : Int)) ++ [.int ((min t.depth 201 : Nat) : Int)])) s = some (.ins cS dx (fieldsS e nm sz dp)) := by rw [upd_ne nsD, upd_ne nsZ]; exact ho5
        have m7 : MD P w (upd (upd H5 sz (.lst (vals.map (fun t => V.int ((min t.size 200001 : Nat) : Int)) ++ [.int ((min t.size 200001 : Nat) : Int)]))) dp (.lst (vals.map (fun t => V.int ((min t.depth 201 : Nat) : Int)) ++ [.int ((min t.depth 201 : Nat) : Int)]))) nm (mPut xs k v (.int (vals.length : Nat))) :=
          m5.mono (by rw [upd_ne nmD.symm, upd_ne nmZ.symm]) (fun a ys q => by
            have z1 : a ≠ sz := fun z => by rw [z, hz5] at q; cases q
            have z2 : a ≠ dp := fun z => by rw [z, hd5] at q; cases q
            rw [upd_ne z2, upd_ne z1]; exact q)
        exact ⟨hst.push hl hen hxl hx hk hn tt7 hkey7 ⟨dx, ho7⟩ (by rw [upd_ne hst.ne2, upd_ne hst.ne1]; exact h15) m7 (by rw [upd_ne hst.ne3, upd_same]) upd_same, kp7, hkey7, m7, ho7⟩
      have last : ∀ H7, StAt P w K cS H7 s e nm sz dp (vals ++ [t]) → Kp (adS e nm sz dp) H H7 → Q (.int (vals.length : Nat)) H7 := fun H7 a b =>
        kn H7 [t] vals.length b a (Nat.le_refl _) (by rw [List.getElem?_append_right (Nat.le_refl _), Nat.sub_self]; rfl)
      have ho6 : ∀ o, upd H5 sz o s = some (.ins cS dx (fieldsS e nm sz dp)) := fun o => by rw [upd_ne nsZ]; exact ho5
      have hd6 : ∀ o, upd H5 sz o dp = some (.lst (vals.map fun t => V.int ((min t.depth 201 : Nat) : Int))) := fun o => by rw [upd_ne hst.ne3.symm]; exact hd5
      have mv : mval (mPut xs k v (.int (vals.length : Nat))) k = some (.int (vals.length : Nat)) := by rw [mval_put hn, if_pos rfl]
      cases k with
      | inl x =>
        have e1 : v = .str x := hkey
        subst e1
        have e2 : t = .w x := hk
        subst e2
        refine ⟨_, rfl, .str x, true, rfl, .inl ⟨x, rfl, rfl⟩, _, rfl, iteT ?_⟩
        refine ⟨_, rfl, s, cS, dx, _, _, rfl, ho5, TS.cl, TS.nS, rfl, .inl ⟨rfl, _, SqL.of hz5⟩, sz, _, _, rfl, rfl, hz5, by rw [List.length_map]; omega, ?_⟩
        refine ⟨_, rfl, s, cS, dx, _, _, rfl, ho6 _, TS.cl, TS.nD, rfl, .inl ⟨rfl, _, SqL.of (hd6 _)⟩, dp, _, _, rfl, rfl, (hd6 _), by rw [List.length_map]; omega, ?_⟩
        obtain ⟨f1, f2, f3, f4, f5⟩ := fin _ rfl
        exact ⟨_, rfl, s, cS, dx, _, _, rfl, f5, TS.cl, TS.nN, rfl, _, rfl, nm, _, _, _, rfl, f3, f4, mv, last _ f1 f2⟩
      | inr p =>
        obtain ⟨j, l, a, as, rfl, q3, q4, rfl⟩ := hk
        obtain ⟨b, rfl, hb⟩ := hkey5
        refine ⟨_, rfl, .ref b, false, rfl, .inr ⟨b, _, rfl, SqT.of hb, rfl⟩, _, rfl, iteF ?_⟩
        refine ⟨_, rfl, b, _, rfl, SqT.of hb, rfl, _, _, rfl, _, _, rfl, rfl, ?_⟩
        have gz : ∀ (i : Nat) (u : T), vals[i]? = some u → atI (vals.map fun t => V.int ((min t.size 200001 : Nat) : Int)) ((i : Nat) : Int) = some (.int ((min u.size 200001 : Nat) : Int)) := fun i u hu => atI_nat (by rw [List.getElem?_map, hu]; rfl)
        have gd : ∀ (i : Nat) (u : T), vals[i]? = some u → atI (vals.map fun t => V.int ((min t.depth 201 : Nat) : Int)) ((i : Nat) : Int) = some (.int ((min u.depth 201 : Nat) : Int)) := fun i u hu => atI_nat (by rw [List.getElem?_map, hu]; rfl)
        have ez : (T.l (a :: as)).size = a.size + (T.l as).size := by simp [T.size, sizeL]
        have ed : (T.l (a :: as)).depth = max (a.depth + 1) (T.l as).depth := by simp [T.depth, depthL]
        refine ⟨_, rfl, s, cS, dx, _, _, rfl, ho5, TS.cl, TS.nS, rfl, .inl ⟨rfl, _, SqL.of hz5⟩, _, rfl, s, cS, dx, _, _, rfl, ho5, TS.cl, TS.nS, rfl, _, rfl, sz, _, _, _, rfl, rfl, SqL.of hz5, gz j a q3, _, rfl, s, cS, dx, _, _, rfl, ho5, TS.cl, TS.nS, rfl, _, rfl, sz, _, _, _, rfl, rfl, SqL.of hz5, gz l _ q4, _, _, rfl, rfl, _, _, rfl, rfl, _, _, rfl, sz, _, _, rfl, rfl, hz5, by rw [List.length_map]; omega, ?_⟩
        rw [szE, ← ez]
        have z5 : ∀ o, SqL K (upd H5 sz o) dp (vals.map fun t => V.int ((min t.depth 201 : Nat) : Int)) := fun o => SqL.of (hd6 o)
        refine ⟨_, rfl, s, cS, dx, _, _, rfl, ho6 _, TS.cl, TS.nD, rfl, .inl ⟨rfl, _, z5 _⟩, _, rfl, s, cS, dx, _, _, rfl, ho6 _, TS.cl, TS.nD, rfl, _, rfl, dp, _, _, _, rfl, rfl, z5 _, gd j a q3, _, _, rfl, rfl, _, rfl, s, cS, dx, _, _, rfl, ho6 _, TS.cl, TS.nD, rfl, _, rfl, dp, _, _, _, rfl, rfl, z5 _, gd l _ q4, _, _, rfl, ?_⟩
        refine ⟨_, _, rfl, rfl, _, _, rfl, dp, _, _, rfl, rfl, hd6 _, by rw [List.length_map]; omega, ?_⟩
        rw [dpE, ← ed]
        obtain ⟨f1, f2, f3, f4, f5⟩ := fin _ rfl
        exact ⟨_, rfl, s, cS, dx, _, _, rfl, f5, TS.cl, TS.nN, rfl, _, rfl, nm, _, _, _, rfl, f3, f4, mv, last _ f1 f2⟩
end
end K46
/-! Store: __init__, is_word, first, rest, pair_up. -/
namespace K46
open PySem PySem.Spec PyProof.Rows L2

def tMNewS (P : Program) (w : World) : TE := fun _ H Q => ∀ d H4, H d = none → Same H H4 → MD P w H4 d [] → (∀ b, H4 b = none → b ≠ d) → Q (.ref d) H4
theorem pe_mnewS {X : Cx} {pos : Pos} : PE X (.Dict [] [] pos) (tMNewS X.prog X.w) :=
  pe_mnew.imp fun σ H Q q d hd hlow => q d _ hd (same_upd hd) (MD.nil upd_same hlow) fun b hb e => by rw [e, upd_same] at hb; cases hb
def spSInit (P : Program) (w : World) (K : PySem.W.Frag) (cS : Addr) : Sp := fun vs H Q _ => ∃ (x dx : Addr), vs = [.ref x] ∧ H x = some (.ins cS dx []) ∧
  ∀ (H' : Hp) (e nm sz dp : Addr), Kp [x] H H' → StAt P w K cS H' x e nm sz dp [nil] → H e = none → H nm = none → H sz = none → H dp = none → Q .non H'
abbrev sSInit : Stmt := inClass (top 30) 0
theorem sc_sSInit : FnScope ["self"] ["self"] (defScope sSInit) := ⟨rfl, rfl, rfl, by decide +kernel, rfl, by decide +kernel, by decide +kernel⟩
abbrev sSIsWord : Stmt := inClass (top 30) 2
theorem sc_sSIsWord : FnScope ["self", "number"] ["self", "number"] (defScope sSIsWord) := ⟨rfl, rfl, rfl, by decide +kernel, rfl, by decide +kernel, by decide +kernel⟩
abbrev sFirst : Stmt := inClass (top 30) 3
theorem sc_sFirst : FnScope ["self", "number"] ["self", "number"] (defScope sFirst) := ⟨rfl, rfl, rfl, by decide +kernel, rfl, by decide +kernel, by decide +kernel⟩
abbrev sRest : Stmt := inClass (top 30) 4
theorem sc_sRest : FnScope ["self", "number"] ["self", "number"] (defScope sRest) := ⟨rfl, rfl, rfl, by decide +kernel, rfl, by decide +kernel, by decide +kernel⟩
abbrev sPairUp : Stmt := inClass (top 30) 5
theorem sc_sPairUp : FnScope ["self", "item", "items"] ["self", "item", "items"] (defScope sPairUp) := ⟨rfl, rfl, rfl, by decide +kernel, rfl, by decide +kernel, by decide +kernel⟩
theorem nil_size : nil.size = 1 := by simp [T.size, sizeL]
theorem nil_depth : nil.depth = 1 := by simp [T.depth, depthL]
section
variable {P : Program} {w : World} {K : PySem.W.Frag} {mg : Str → Option Value} {base : Heap} {cS : Addr}
theorem ok_sInit {f : Addr} {fd : FuncData} (B : Bl mg) (TS : TxtS K mg cS) (D : MDf K cS "__init__" "Store.__init__" sSInit ["self"] f fd) : FnOk P w K mg base CX0 1 f fd ["self"] (spSInit P w K cS) := by
  refine D.F.ok sc_sSInit (fun vs H Q XE h => ?_) (fun cdv A outer st H vs Q XE hr h => ?_)
  · obtain ⟨x, dx, rfl, _⟩ := h
    rfl
  · obtain ⟨x, dx, rfl, ho, k⟩ := h
    have nd := sc_sSInit.nd
    have hu := hu_of hr
    refine ⟨_,
      (pss_cons (ps_fld (pv 0) (pe_lst (pa_cons (pe_tup pa_nil) pa_nil)) rfl)
      (pss_cons (ps_fld (pv 0) pe_mnewS rfl)
      (pss_cons (ps_fld (pv 0) (pe_lst (pa_cons pe_int pa_nil)) rfl)
      (pss_one (ps_fld (pv 0) (pe_lst (pa_cons pe_int pa_nil)) rfl)))))
      , ?_⟩
    have hs : sizeLine = 16777216 := rfl
    refine ⟨(by show 0 ≤ sizeLine; decide), fun a ha => ⟨(by show 1 ≤ sizeLine; decide), fun e he => ?_⟩⟩
    have nxa : x ≠ a := ne_of_none ho ha
    have he0 : H e = none := by
      have : e ≠ a := fun q => by rw [q, upd_same] at he; cases he
      rw [upd_ne this] at he; exact he
    have nea : e ≠ a := fun q => by rw [q, upd_same] at he; cases he
    have nxe : x ≠ e := ne_of_none ho he0
    refine ⟨_, rfl, x, cS, dx, _, rfl, (by rw [upd_ne nxe, upd_ne nxa]; exact ho), TS.cl, TS.nE, (by decide), fun nm H2' hnm S2 hmd hfr => ?_⟩
    have g1 : upd (upd (upd H a (.tup [])) e (.lst [.ref a])) x (.ins cS dx (putF "entries" (.ref e) [])) x = some (.ins cS dx [("entries", .ref e)]) := upd_same
    have g2 : upd (upd (upd H a (.tup [])) e (.lst [.ref a])) x (.ins cS dx (putF "entries" (.ref e) [])) e = some (.lst [.ref a]) := by rw [upd_ne nxe.symm, upd_same]
    have g3 : upd (upd (upd H a (.tup [])) e (.lst [.ref a])) x (.ins cS dx (putF "entries" (.ref e) [])) a = some (.tup []) := by rw [upd_ne nxa.symm, upd_ne nea.symm, upd_same]
    have kp : Kp [x] H (upd (upd (upd H a (.tup [])) e (.lst [.ref a])) x (.ins cS dx (putF "entries" (.ref e) []))) := ((Kp.refl.upd (.inr ha)).upd (.inr he0)).upd (.inl (by simp))
    generalize upd (upd (upd H a (.tup [])) e (.lst [.ref a])) x (.ins cS dx (putF "entries" (.ref e) [])) = H2 at *
    have n1 : x ≠ nm := ne_of_none g1 hnm
    have n2 : e ≠ nm := ne_of_none g2 hnm
    have n3 : a ≠ nm := ne_of_none g3 hnm
    have hnm0 : H nm = none := kp.free hnm
    have g1 := S2 _ _ g1
    have g2 := S2 _ _ g2
    have g3 := S2 _ _ g3
    have g4 := hmd.at_
    have kp := kp.trans (Kp.of_same S2)
    refine ⟨_, rfl, x, cS, dx, _, rfl, g1, TS.cl, TS.nN, (by show 1 < 1000; decide), (by show 1 ≤ sizeLine; decide), fun sz hsz => ?_⟩
    have i1 : upd H2' x (.ins cS dx (putF "numbers" (.ref nm) [("entries", .ref e)])) x = some (.ins cS dx [("entries", .ref e), ("numbers", .ref nm)]) := upd_same
    have i2 : upd H2' x (.ins cS dx (putF "numbers" (.ref nm) [("entries", .ref e)])) e = some (.lst [.ref a]) := by rw [upd_ne nxe.symm]; exact g2
    have i3 : upd H2' x (.ins cS dx (putF "numbers" (.ref nm) [("entries", .ref e)])) a = some (.tup []) := by rw [upd_ne nxa.symm]; exact g3
    have i4 : upd H2' x (.ins cS dx (putF "numbers" (.ref nm) [("entries", .ref e)])) nm = some (.ext (mPhi P w nm [])) := by rw [upd_ne n1.symm]; exact g4
    have kp2 : Kp [x] H (upd H2' x (.ins cS dx (putF "numbers" (.ref nm) [("entries", .ref e)]))) := kp.upd (.inl (by simp))
    have hlow := hmd.low
    clear g1 g2 g3 g4 kp hnm S2 hmd
    generalize upd H2' x (.ins cS dx (putF "numbers" (.ref nm) [("entries", .ref e)])) = H3 at *
    have m1 : x ≠ sz := ne_of_none i1 hsz
    have m2 : e ≠ sz := ne_of_none i2 hsz
    have m3 : a ≠ sz := ne_of_none i3 hsz
    have m4 : nm ≠ sz := ne_of_none i4 hsz
    refine ⟨_, rfl, x, cS, dx, _, rfl, (by rw [upd_ne m1]; exact i1), TS.cl, TS.nS, (by show 2 < 1000; decide), (by show 1 ≤ sizeLine; decide), fun dp hdp => ?_⟩
    have j1 : upd (upd H3 sz (.lst [.int 1])) x (.ins cS dx (putF "sizes" (.ref sz) [("entries", .ref e), ("numbers", .ref nm)])) x = some (.ins cS dx [("entries", .ref e), ("numbers", .ref nm), ("sizes", .ref sz)]) := upd_same
    have j2 : upd (upd H3 sz (.lst [.int 1])) x (.ins cS dx (putF "sizes" (.ref sz) [("entries", .ref e), ("numbers", .ref nm)])) e = some (.lst [.ref a]) := by rw [upd_ne nxe.symm, upd_ne m2]; exact i2
    have j3 : upd (upd H3 sz (.lst [.int 1])) x (.ins cS dx (putF "sizes" (.ref sz) [("entries", .ref e), ("numbers", .ref nm)])) a = some (.tup []) := by rw [upd_ne nxa.symm, upd_ne m3]; exact i3
    have j4 : upd (upd H3 sz (.lst [.int 1])) x (.ins cS dx (putF "sizes" (.ref sz) [("entries", .ref e), ("numbers", .ref nm)])) nm = some (.ext (mPhi P w nm [])) := by rw [upd_ne n1.symm, upd_ne m4]; exact i4
    have j5 : upd (upd H3 sz (.lst [.int 1])) x (.ins cS dx (putF "sizes" (.ref sz) [("entries", .ref e), ("numbers", .ref nm)])) sz = some (.lst [.int 1]) := by rw [upd_ne m1.symm, upd_same]
    have hsz0 : H sz = none := kp2.free hsz
    have kp3 : Kp [x] H (upd (upd H3 sz (.lst [.int 1])) x (.ins cS dx (putF "sizes" (.ref sz) [("entries", .ref e), ("numbers", .ref nm)]))) := (kp2.upd (.inr hsz0)).upd (.inl (by simp))
    clear i1 i2 i3 i4 kp2 hsz
    generalize upd (upd H3 sz (.lst [.int 1])) x (.ins cS dx (putF "sizes" (.ref sz) [("entries", .ref e), ("numbers", .ref nm)])) = H4 at *
    have o1 : x ≠ dp := ne_of_none j1 hdp
    have o2 : e ≠ dp := ne_of_none j2 hdp
    have o3 : a ≠ dp := ne_of_none j3 hdp
    have o4 : nm ≠ dp := ne_of_none j4 hdp
    have o5 : sz ≠ dp := ne_of_none j5 hdp
    have hdp0 : H dp = none := kp3.free hdp
    refine ⟨_, rfl, x, cS, dx, _, rfl, (by rw [upd_ne o1]; exact j1), TS.cl, TS.nD, (by show 3 < 1000; decide), ?_⟩
    have l1 : ∀ fs, upd (upd H4 dp (.lst [.int 1])) x (.ins cS dx fs) x = some (.ins cS dx fs) := fun fs => upd_same
    refine k _ e nm sz dp ((kp3.upd (.inr hdp0)).upd (.inl (by simp))) ?_ he0 hnm0 hsz0 hdp0
    refine ⟨⟨dx, l1 _⟩, ⟨[.ref a], by rw [upd_ne nxe.symm, upd_ne o2]; exact j2, rfl, fun i t ht => ?_⟩, ⟨[], MD.nil (by rw [upd_ne n1.symm, upd_ne o4]; exact j4) hlow, rfl, fun k v => ?_⟩, ?_, ?_, by simp, rfl, m2, o2, o5⟩
    · have hi : i = 0 := by have := (List.getElem?_eq_some_iff.mp ht).1; simpa using this
      subst hi
      cases ht
      exact ⟨_, rfl, a, rfl, SqT.of (by rw [upd_ne nxa.symm, upd_ne o3]; exact j3)⟩
    · constructor
      · intro q; cases q
      · rintro ⟨i, t, q1, _, q2, _⟩
        have := (List.getElem?_eq_some_iff.mp q2).1
        rw [List.length_singleton] at this
        omega
    · rw [upd_ne m1.symm, upd_ne o5]
      show H4 sz = some (.lst [.int ((min nil.size 200001 : Nat) : Int)])
      rw [nil_size, j5]
      rfl
    · rw [upd_ne o1.symm, upd_same]
      show _ = some (HO.lst [.int ((min nil.depth 201 : Nat) : Int)])
      rw [nil_depth]
      rfl
theorem ok_sIsWord {f : Addr} {fd : FuncData} (B : Bl mg) (TS : TxtS K mg cS) (D : MDf K cS "is_word" "Store.is_word" sSIsWord ["self", "number"] f fd) : FnOk P w K mg base CX0 1 f fd ["self", "number"] (spSIsWord P w K cS) := by
  refine D.F.ok sc_sSIsWord (fun vs H Q XE h => ?_) (fun cdv A outer st H vs Q XE hr h => ?_)
  · obtain ⟨s, e, nm, sz, dp, vals, n, t, rfl, _⟩ := h
    rfl
  · obtain ⟨s, e, nm, sz, dp, vals, n, t, rfl, hst, hn, k⟩ := h
    have nd := sc_sSIsWord.nd
    refine ⟨_,
      (pss_one (ps_ret (pe_callB call_isStrV (by rfl) B.isinstance PyProof.Rows.boot_isinstance (pa_cons (pe_ix ix_list (pe_fld (pv 0) rfl) (pv 1) (fun _ _ => rfl)) (pa_cons (pe_bltn (v := .ty "str") (by rfl) B.str PyProof.Rows.boot_str rfl) pa_nil)))))
      , ?_⟩
    obtain ⟨dx, ho⟩ := hst.obj
    obtain ⟨us, h1, hl, hen⟩ := hst.ents
    obtain ⟨u, hu1, hu2⟩ := hen n t hn
    exact ⟨_, rfl, s, cS, dx, _, _, rfl, ho, TS.cl, TS.nE, rfl, _, rfl, e, _, _, _, rfl, rfl, SqL.of h1, atI_nat hu1, u, _, rfl, hu2.isW, k⟩
theorem ok_first {f fW : Addr} {fd fdW : FuncData} (B : Bl mg) (TS : TxtS K mg cS) (D : MDf K cS "first" "Store.first" sFirst ["self", "number"] f fd) (DW : MDf K cS "is_word" "Store.is_word" sSIsWord ["self", "number"] fW fdW)
    (GW : FnOk P w K mg base CX0 1 fW fdW ["self", "number"] (spSIsWord P w K cS)) : FnOk P w K mg base CX0 2 f fd ["self", "number"] (spFirst P w K cS) := by
  refine D.F.ok sc_sFirst (fun vs H Q XE h => ?_) (fun cdv A outer st H vs Q XE hr h => ?_)
  · obtain ⟨s, e, nm, sz, dp, vals, n, t, rfl, _⟩ := h
    rfl
  · obtain ⟨s, e, nm, sz, dp, vals, n, t, rfl, hst, hn, k⟩ := h
    have nd := sc_sFirst.nd
    obtain ⟨tZ, eZ⟩ := TS.empty
    refine ⟨_,
      (pss_cons (ps_if (PW.pt (pw_or (pt_cmpR op_eq (pv 1) (pe_glob (v := .int 0) (by rfl) eZ ⟨_, rfl⟩) (nomark _)) (pw_or1 (pt_val (pe_meth (pv 0) TS.cl DW.m GW hr DW.b .nil pass0 (pa_cons (pv 1) pa_nil))))))
      (pss_one (ps_ret (pe_glob (v := .int 0) (by rfl) eZ ⟨_, rfl⟩)))
      pss_nil)
      (pss_one (ps_ret (pe_ix ix_tup (pe_ix ix_list (pe_fld (pv 0) rfl) (pv 1) (fun _ _ => rfl)) pe_int (fun _ _ => rfl)))))
      , ?_⟩
    obtain ⟨dx, ho⟩ := hst.obj
    obtain ⟨us, h1, hl, hen⟩ := hst.ents
    obtain ⟨u, hu1, hu2⟩ := hen n t hn
    refine ⟨_, rfl, rfl, ?_⟩
    by_cases hz : n = 0
    · subst hz
      rw [decide_eq_true (show V.int ((0 : Nat) : Int) = V.int 0 from rfl)]
      rw [hst.zero] at hn
      cases hn
      exact ⟨_, rfl, iteT (k 0 hst.zero)⟩
    · rw [decide_eq_false (show ¬ V.int ((n : Nat) : Int) = V.int 0 from fun q => by have := V.int.inj q; omega)]
      refine ⟨_, rfl, iteF ⟨_, rfl, s, dx, _, rfl, ho, rfl, _, rfl, s, e, nm, sz, dp, vals, n, t, rfl, hst, hn, ?_⟩⟩
      cases t with
      | w x => exact ⟨_, rfl, iteT (k 0 hst.zero)⟩
      | l as =>
        cases as with
        | nil => exact absurd (nodup_get hst.nd hn hst.zero) hz
        | cons a as =>
          obtain ⟨p, j, l, rfl, hp, _, _, h3, h4⟩ := hu2
          exact ⟨_, rfl, iteF ⟨_, rfl, s, cS, dx, _, _, rfl, ho, TS.cl, TS.nE, rfl, _, rfl, e, _, _, _, rfl, rfl, SqL.of h1, atI_nat hu1, p, _, _, _, rfl, rfl, SqT.of hp, at0, k j h3⟩⟩
theorem ok_rest {f fW : Addr} {fd fdW : FuncData} (B : Bl mg) (TS : TxtS K mg cS) (D : MDf K cS "rest" "Store.rest" sRest ["self", "number"] f fd) (DW : MDf K cS "is_word" "Store.is_word" sSIsWord ["self", "number"] fW fdW)
    (GW : FnOk P w K mg base CX0 1 fW fdW ["self", "number"] (spSIsWord P w K cS)) : FnOk P w K mg base CX0 2 f fd ["self", "number"] (spRest P w K cS) := by
  refine D.F.ok sc_sRest (fun vs H Q XE h => ?_) (fun cdv A outer st H vs Q XE hr h => ?_)
  · obtain ⟨s, e, nm, sz, dp, vals, n, t, rfl, _⟩ := h
    rfl
  · obtain ⟨s, e, nm, sz, dp, vals, n, t, rfl, hst, hn, k⟩ := h
    have nd := sc_sRest.nd
    obtain ⟨tZ, eZ⟩ := TS.empty
    refine ⟨_,
      (pss_cons (ps_if (PW.pt (pw_or (pt_cmpR op_eq (pv 1) (pe_glob (v := .int 0) (by rfl) eZ ⟨_, rfl⟩) (nomark _)) (pw_or1 (pt_val (pe_meth (pv 0) TS.cl DW.m GW hr DW.b .nil pass0 (pa_cons (pv 1) pa_nil))))))
      (pss_one (ps_ret (pe_glob (v := .int 0) (by rfl) eZ ⟨_, rfl⟩)))
      pss_nil)
      (pss_one (ps_ret (pe_ix ix_tup (pe_ix ix_list (pe_fld (pv 0) rfl) (pv 1) (fun _ _ => rfl)) pe_int (fun _ _ => rfl)))))
      , ?_⟩
    obtain ⟨dx, ho⟩ := hst.obj
    obtain ⟨us, h1, hl, hen⟩ := hst.ents
    obtain ⟨u, hu1, hu2⟩ := hen n t hn
    refine ⟨_, rfl, rfl, ?_⟩
    by_cases hz : n = 0
    · subst hz
      rw [decide_eq_true (show V.int ((0 : Nat) : Int) = V.int 0 from rfl)]
      rw [hst.zero] at hn
      cases hn
      exact ⟨_, rfl, iteT (k 0 hst.zero)⟩
    · rw [decide_eq_false (show ¬ V.int ((n : Nat) : Int) = V.int 0 from fun q => by have := V.int.inj q; omega)]
      refine ⟨_, rfl, iteF ⟨_, rfl, s, dx, _, rfl, ho, rfl, _, rfl, s, e, nm, sz, dp, vals, n, t, rfl, hst, hn, ?_⟩⟩
      cases t with
      | w x => exact ⟨_, rfl, iteT (k 0 hst.zero)⟩
      | l as =>
        cases as with
        | nil => exact absurd (nodup_get hst.nd hn hst.zero) hz
        | cons a as =>
          obtain ⟨p, j, l, rfl, hp, _, _, h3, h4⟩ := hu2
          exact ⟨_, rfl, iteF ⟨_, rfl, s, cS, dx, _, _, rfl, ho, TS.cl, TS.nE, rfl, _, rfl, e, _, _, _, rfl, rfl, SqL.of h1, atI_nat hu1, p, _, _, _, rfl, rfl, SqT.of hp, at1, k l h4⟩⟩
theorem ok_pairUp {f fW fN : Addr} {fd fdW fdN : FuncData} (B : Bl mg) (TS : TxtS K mg cS) (D : MDf K cS "pair_up" "Store.pair_up" sPairUp ["self", "item", "items"] f fd) (DW : MDf K cS "is_word" "Store.is_word" sSIsWord ["self", "number"] fW fdW)
    (GW : FnOk P w K mg base CX0 1 fW fdW ["self", "number"] (spSIsWord P w K cS)) (DN : MDf K cS "number_of" "Store.number_of" sNumberOf ["self", "entry"] fN fdN) (GN : FnOk P w K mg base CX0 1 fN fdN ["self", "entry"] (spNumberOf P w K cS)) :
    FnOk P w K mg base CX0 2 f fd ["self", "item", "items"] (spPairUp P w K cS) := by
  refine D.F.ok sc_sPairUp (fun vs H Q XE h => ?_) (fun cdv A outer st H vs Q XE hr h => ?_)
  · obtain ⟨s, e, nm, sz, dp, vals, n, m, t, u, rfl, _⟩ := h
    rfl
  · obtain ⟨s, e, nm, sz, dp, vals, n, m, t, u, rfl, hst, hn, hm, hlen, k⟩ := h
    have nd := sc_sPairUp.nd
    obtain ⟨tZ, eZ⟩ := TS.empty
    refine ⟨_,
      (pss_cons (ps_if (pt_val (pe_meth (pv 0) TS.cl DW.m GW hr DW.b .nil pass0 (pa_cons (pv 2) pa_nil)))
      (pss_one (ps_set (i := 2) nd rfl (.inl rfl) (pe_glob (v := .int 0) (by rfl) eZ ⟨_, rfl⟩)))
      pss_nil)
      (pss_one (ps_ret (pe_meth (pv 0) TS.cl DN.m GN hr DN.b .nil pass0 (pa_cons (pe_tup (pa_cons (pv 1) (pa_cons (pv 2) pa_nil))) pa_nil)))))
      , ?_⟩
    obtain ⟨dx, ho⟩ := hst.obj
    refine ⟨_, rfl, s, dx, _, rfl, ho, rfl, _, rfl, s, e, nm, sz, dp, vals, m, u, rfl, hst, hm, ?_⟩
    have main : ∀ (m' : Nat) (as : List T), vals[m']? = some (.l as) → tItems u = as → ∀ b, H b = none → spNumberOf P w K cS [.ref s, .ref b] (upd H b (.tup [.int ((n : Nat) : Int), .int ((m' : Nat) : Int)])) Q XE := by
      intro m' as hm' e9 b hb
      have S : Same H (upd H b (.tup [.int ((n : Nat) : Int), .int ((m' : Nat) : Int)])) := same_upd hb
      refine ⟨s, e, nm, sz, dp, vals, .ref b, .inr ((n : Int), (m' : Int)), tJoin t u, rfl, hst.same S, ⟨b, rfl, upd_same⟩, ⟨n, m', t, as, rfl, hn, hm', by rw [tJoin, e9]⟩, hlen, fun H' more i kp a b c => k H' more i ((Kp.of_same S).trans kp) a b c⟩
    cases u with
    | w x =>
      refine ⟨_, rfl, iteT ?_⟩
      refine ⟨_, rfl, s, dx, _, rfl, ho, rfl, _, rfl, _, rfl, (by show 2 ≤ sizeLine; decide), fun b hb => main 0 [] hst.zero rfl b hb⟩
    | l as =>
      refine ⟨_, rfl, iteF ?_⟩
      refine ⟨_, rfl, s, dx, _, rfl, ho, rfl, _, rfl, _, rfl, (by show 2 ≤ sizeLine; decide), fun b hb => main m as hm rfl b hb⟩
end
end K46
/-! Store: items_of. -/
namespace K46
open PySem PySem.Spec PyProof.Rows L2

/-- numbers of values -/
def Nums (vals : List T) (ns : List Nat) (ts : List T) : Prop := ns.map (fun n => vals[n]?) = ts.map some
abbrev vint (n : Nat) : V := .int (n : Int)
theorem Nums.nil {vals : List T} : Nums vals [] [] := rfl
theorem Nums.cons {vals : List T} {n : Nat} {t : T} {ns : List Nat} {ts : List T} (h : vals[n]? = some t) (k : Nums vals ns ts) : Nums vals (n :: ns) (t :: ts) := by
  unfold Nums at *
  rw [List.map_cons, List.map_cons, h, k]
theorem Nums.append {vals : List T} {ns ms : List Nat} {ts us : List T} (h : Nums vals ns ts) (k : Nums vals ms us) : Nums vals (ns ++ ms) (ts ++ us) := by
  unfold Nums at *
  rw [List.map_append, List.map_append, h, k]
theorem Nums.length {vals : List T} {ns : List Nat} {ts : List T} (h : Nums vals ns ts) : ns.length = ts.length := by
  have := congrArg List.length h
  simpa using this
theorem Nums.cons_eq {vals : List T} {ns : List Nat} {t : T} {ts : List T} (h : Nums vals ns (t :: ts)) : ∃ n ms, ns = n :: ms ∧ vals[n]? = some t ∧ Nums vals ms ts := by
  cases ns with
  | nil => exact nomatch (show ([] : List (Option T)) = some t :: ts.map some from h)
  | cons n ms =>
    have h := (show vals[n]? :: ms.map (fun n => vals[n]?) = some t :: ts.map some from h)
    injection h with h1 h2
    exact ⟨n, ms, rfl, h1, h2⟩
theorem Nums.nil_eq {vals : List T} {ns : List Nat} (h : Nums vals ns []) : ns = [] := by
  have := h.length
  exact List.length_eq_zero_iff.mp this
theorem Nums.split {vals : List T} : ∀ {ts us : List T} {ns : List Nat}, Nums vals ns (ts ++ us) → Nums vals (ns.take ts.length) ts ∧ Nums vals (ns.drop ts.length) us
  | [], us, ns, h => ⟨.nil, h⟩
  | t :: ts, us, ns, h => by
    obtain ⟨n, ms, rfl, h1, h2⟩ := h.cons_eq
    obtain ⟨a, b⟩ := Nums.split h2
    exact ⟨.cons h1 a, b⟩
theorem Nums.get {vals : List T} {ns : List Nat} {ts : List T} (h : Nums vals ns ts) {i : Nat} {t : T} (k : ts[i]? = some t) : ∃ n, ns[i]? = some n ∧ vals[n]? = some t := by
  have := congrArg (fun l => l[i]?) h
  simp only [List.getElem?_map, k, Option.map_some] at this
  rw [Option.map_eq_some_iff] at this
  obtain ⟨n, h1, h2⟩ := this
  exact ⟨n, h1, h2⟩
theorem Nums.get' {vals : List T} {ns : List Nat} {ts : List T} (h : Nums vals ns ts) {i n : Nat} (k : ns[i]? = some n) : ∃ t, ts[i]? = some t ∧ vals[n]? = some t := by
  have := congrArg (fun l => l[i]?) h
  simp only [List.getElem?_map, k, Option.map_some] at this
  have := this.symm
  rw [Option.map_eq_some_iff] at this
  obtain ⟨t, h1, h2⟩ := this
  exact ⟨t, h1, h2.symm⟩
theorem get_more {α : Type} {vals : List α} {n : Nat} {t : α} (h : vals[n]? = some t) (more : List α) : (vals ++ more)[n]? = some t := by
  rw [List.getElem?_append_left (List.getElem?_eq_some_iff.mp h).1]; exact h
theorem Nums.mono {vals : List T} : ∀ {ts : List T} {ns : List Nat} (_ : Nums vals ns ts) (more : List T), Nums (vals ++ more) ns ts
  | [], ns, h, _ => by rw [h.nil_eq]; exact .nil
  | t :: ts, ns, h, more => by
    obtain ⟨n, ms, rfl, h1, h2⟩ := h.cons_eq
    exact .cons (get_more h1 more) (h2.mono more)
theorem Nums.reverse {vals : List T} {ns : List Nat} {ts : List T} (h : Nums vals ns ts) : Nums vals ns.reverse ts.reverse := by
  unfold Nums at *
  rw [List.map_reverse, List.map_reverse, h]
section
variable {P : Program} {w : World} {K : PySem.W.Frag} {cS : Addr} {H H' : Hp} {s e nm sz dp : Addr} {vals : List T}
theorem StAt.there (h : StAt P w K cS H s e nm sz dp vals) {b : Addr} (hb : b ∈ s :: adS e nm sz dp) : H b ≠ none := by
  obtain ⟨dx, ho⟩ := h.obj
  obtain ⟨us, h1, _⟩ := h.ents
  obtain ⟨xs, h2, _⟩ := h.nums
  simp only [adS, List.mem_cons, List.not_mem_nil, or_false] at hb
  rcases hb with rfl | rfl | rfl | rfl | rfl
  · rw [ho]; exact fun q => nomatch q
  · rw [h1]; exact fun q => nomatch q
  · rw [h2.at_]; exact fun q => nomatch q
  · rw [h.szs]; exact fun q => nomatch q
  · rw [h.dps]; exact fun q => nomatch q
theorem StAt.keep (h : StAt P w K cS H s e nm sz dp vals) (hk : ∀ b ∈ s :: adS e nm sz dp, H' b = H b) (tt : Tups H H') : StAt P w K cS H' s e nm sz dp vals := by
  obtain ⟨dx, ho⟩ := h.obj
  obtain ⟨us, h1, h2, h3⟩ := h.ents
  obtain ⟨xs, m, hl, hx⟩ := h.nums
  refine ⟨⟨dx, (hk _ (by simp)).trans ho⟩, ⟨us, (hk _ (by simp [adS])).trans h1, h2, fun i t ht => ?_⟩, ⟨xs, m.mono (hk _ (by simp [adS])) tt.1, hl, hx⟩, (hk _ (by simp [adS])).trans h.szs, (hk _ (by simp [adS])).trans h.dps, h.nd, h.zero, h.ne1, h.ne2, h.ne3⟩
  obtain ⟨u, q1, q2⟩ := h3 i t ht
  refine ⟨u, q1, ?_⟩
  have := q2.mono (more := []) tt
  rwa [List.append_nil] at this
/-- a change elsewhere -/
theorem StAt.upd {vals' : List T} {p : Addr} {o : HO} (h : StAt P w K cS H' s e nm sz dp vals') (h0 : StAt P w K cS H s e nm sz dp vals) (hp : H p = none) (tt : Tups H' (upd H' p o)) : StAt P w K cS (upd H' p o) s e nm sz dp vals' :=
  h.keep (fun b hb => upd_ne fun q => h0.there hb (q ▸ hp)) tt
end
/-- numbers out: a new list -/
def spItemsOf (P : Program) (w : World) (K : PySem.W.Frag) (cS : Addr) : Sp := fun vs H Q _ => ∃ (s e nm sz dp : Addr) (vals : List T) (n : Nat) (ts : List T), vs = [.ref s, .int (n : Int)] ∧ StAt P w K cS H s e nm sz dp vals ∧ vals[n]? = some (.l ts) ∧ ts.length ≤ 1000000 ∧
  ∀ (H' : Hp) (p : Addr) (ns : List Nat), Same H H' → H p = none → H' p = some (.lst (ns.map vint)) → Nums vals ns ts → Q (.ref p) H'
abbrev sItemsOf : Stmt := inClass (top 30) 7
theorem sc_sItemsOf : FnScope ["self", "number", "found", "item"] ["self", "number"] (defScope sItemsOf) := ⟨rfl, rfl, rfl, by decide +kernel, rfl, by decide +kernel, by decide +kernel⟩
section
variable {P : Program} {w : World} {K : PySem.W.Frag} {mg : Str → Option Value} {base : Heap} {cS : Addr}
theorem ok_itemsOf {f : Addr} {fd : FuncData} (B : Bl mg) (TS : TxtS K mg cS) (D : MDf K cS "items_of" "Store.items_of" sItemsOf ["self", "number"] f fd) : FnOk P w K mg base CX0 1 f fd ["self", "number"] (spItemsOf P w K cS) := by
  refine D.F.ok sc_sItemsOf (fun vs H Q XE h => ?_) (fun cdv A outer st H vs Q XE hr h => ?_)
  · obtain ⟨s, e, nm, sz, dp, vals, n, t, rfl, _⟩ := h
    rfl
  · obtain ⟨s, e, nm, sz, dp, vals, n, ts, rfl, hst, hn, hlen, k⟩ := h
    have nd := sc_sItemsOf.nd
    obtain ⟨tZ, eZ⟩ := TS.empty
    refine ⟨_,
      (pss_cons (ps_set (i := 2) nd rfl (.inl rfl) (pe_lst pa_nil))
      (pss_cons (ps_while PassesOwn.never (pt_cmpR op_ne (pv 1) (pe_glob (v := .int 0) (by rfl) eZ ⟨_, rfl⟩) (nomark _))
      (pss_cons (ps_asg (pe_ix ix_list (pe_fld (pv 0) rfl) (pv 1) (fun _ _ => rfl)) (pg_tup (by rfl) (pgs_cons (pg_name (i := 3) nd rfl (.inl rfl)) (pgs_cons (pg_name (i := 1) nd rfl (.inl rfl)) pgs_nil))))
      (pss_one (ps_expr (pe_bm PySem.F.plainAttrs_list PySem.F.slot_list_append PySem.F.type_list_append mt_append (pv 2) (pa_cons (pv 3) pa_nil))))))
      (pss_one (ps_ret (pv 2)))))
      , ?_⟩
    have hs : sizeLine = 16777216 := rfl
    refine ⟨(by show 0 ≤ sizeLine; decide), fun p hp => ?_⟩
    refine ⟨fun m σ H' => ∃ (n' : Nat) (ns : List Nat) (t1 t2 : List T) (x : Option V), σ = [some (.ref s), some (.int (n' : Int)), some (.ref p), x] ∧ Same H H' ∧ H' p = some (.lst (ns.map vint)) ∧ Nums vals ns t1 ∧ vals[n']? = some (.l t2) ∧ ts = t1 ++ t2 ∧ m = t2.length,
      ⟨_, n, [], [], ts, none, rfl, same_upd hp, upd_same, .nil, hn, rfl, rfl⟩, ?_⟩
    rintro m σ H' ⟨n', ns, t1, t2, x, rfl, S, h1, hns, hn', rfl, rfl⟩
    have hst' := hst.same S
    obtain ⟨dx, ho⟩ := hst'.obj
    obtain ⟨us, h2, hl, hen⟩ := hst'.ents
    refine ⟨_, rfl, rfl, ?_⟩
    cases t2 with
    | nil =>
      have := nodup_get hst.nd hn' hst.zero
      subst this
      rw [decide_eq_true (show V.int ((0 : Nat) : Int) = V.int 0 from rfl)]
      refine ⟨_, rfl, iteF ⟨_, rfl, ?_⟩⟩
      rw [List.append_nil] at k
      exact k H' p ns S hp h1 hns
    | cons a as =>
      have hz : n' ≠ 0 := by
        rintro rfl
        rw [hst.zero] at hn'
        cases hn'
      rw [decide_eq_false (show ¬ V.int ((n' : Nat) : Int) = V.int 0 from fun q => by have := V.int.inj q; omega)]
      obtain ⟨u, hu1, b, j, l, rfl, hb, _, _, h3, h4⟩ := hen n' _ hn'
      have hnl := hns.length
      rw [List.length_append, List.length_cons] at hlen
      refine ⟨_, rfl, iteT ⟨fun σ' H1 => ∃ (n' : Nat) (ns : List Nat) (x : Option V), σ' = [some (.ref s), some (.int (n' : Int)), some (.ref p), x] ∧ Same H H1 ∧ H1 p = some (.lst (ns.map vint)) ∧ Nums vals ns (t1 ++ [a]) ∧ vals[n']? = some (.l as), ?_, ?_⟩⟩
      · rintro σ' H1 ⟨n', ns, x, rfl, c1, c2, c3, c4⟩
        exact ⟨as.length, Nat.lt_succ_self _, n', ns, t1 ++ [a], as, x, rfl, c1, c2, c3, c4, by rw [List.append_assoc]; rfl, rfl⟩
      refine ⟨_, rfl, s, cS, dx, _, _, rfl, ho, TS.cl, TS.nE, rfl, _, rfl, e, _, _, _, rfl, rfl, SqL.of h2, atI_nat hu1, b, _, rfl, SqT.of hb, rfl, _, _, rfl, _, _, rfl, rfl, ?_⟩
      refine ⟨_, rfl, .inl ⟨rfl, _, SqL.of h1⟩, _, rfl, p, _, _, rfl, rfl, h1, by rw [List.length_map]; omega, ?_⟩
      exact ⟨l, ns ++ [j], _, rfl, S.upd hp, by rw [upd_same]; simp, hns.append (.cons h3 .nil), h4⟩
end
end K46
/-! Store: put. -/
namespace K46
open PySem PySem.Spec PyProof.Rows L2

/-- what waits, and where it comes to -/
def Fin (t0 : T) : List (T × Bool) → List T → Prop
  | [], M => M = [t0]
  | (t, false) :: ws, M => Fin t0 ws (t :: M)
  | (t, true) :: ws, M => ∃ ts M', t = .l ts ∧ M = ts ++ M' ∧ Fin t0 ws (t :: M')
theorem fin_items {t0 : T} {ws : List (T × Bool)} : ∀ {ts : List T} {M : List T}, Fin t0 ws (ts ++ M) → Fin t0 (ts.reverse.map (fun t => (t, false)) ++ ws) M := by
  intro ts
  suffices key : ∀ (us : List T) (M : List T), Fin t0 ws (us.reverse ++ M) → Fin t0 (us.map (fun t => (t, false)) ++ ws) M by
    intro M h
    exact key ts.reverse M (by rw [List.reverse_reverse]; exact h)
  intro us
  induction us with
  | nil => intro M h; exact h
  | cons u us ih =>
    intro M h
    show Fin t0 (us.map (fun t => (t, false)) ++ ws) (u :: M)
    refine ih _ ?_
    rw [List.reverse_cons, List.append_assoc] at h
    exact h
def pi1 : T × Bool → Nat
  | (t, false) => 3 * t.size - 1
  | (t, true) => (tItems t).length + 1
def pil (ws : List (T × Bool)) : Nat := (ws.map pi1).sum
theorem pil_cons (a : T × Bool) (ws : List (T × Bool)) : pil (a :: ws) = pi1 a + pil ws := by simp [pil]
theorem pil_append (as ws : List (T × Bool)) : pil (as ++ ws) = pil as + pil ws := by simp [pil]
theorem pi1_pos (a : T × Bool) : 1 ≤ pi1 a := by
  obtain ⟨t, b⟩ := a
  cases b with
  | false => have := size_pos t; simp only [pi1]; omega
  | true => simp only [pi1]; omega
theorem pil_len (ws : List (T × Bool)) : ws.length ≤ pil ws := by
  induction ws with
  | nil => exact Nat.le_refl _
  | cons a ws ih => have := pi1_pos a; rw [pil_cons, List.length_cons]; omega
theorem pil_items (ts : List T) : pil (ts.reverse.map (fun t => (t, false))) + ts.length + 3 = 3 * sizeL ts := by
  have e : pil (ts.reverse.map (fun t => (t, false))) = pil (ts.map (fun t => (t, false))) := by simp [pil]
  rw [e]
  clear e
  induction ts with
  | nil => simp [pil, sizeL]
  | cons t ts ih =>
    have := size_pos t
    rw [List.map_cons, pil_cons, List.length_cons, sizeL]
    simp only [pi1]
    omega
/-- a pair that waits -/
def WpAt (K : PySem.W.Frag) (H : Hp) (a : T × Bool) (u : V) : Prop := ∃ r y, u = .ref r ∧ SqT K H r [y, .bl a.2] ∧ Rep K H a.1 y
def WpsAt (K : PySem.W.Frag) (H : Hp) (ws : List (T × Bool)) (us : List V) : Prop := Paired (WpAt K H) ws us
theorem WpsAt.tups {K : PySem.W.Frag} {H H' : Hp} (tt : Tups H H') : ∀ {ws : List (T × Bool)} {us : List V}, WpsAt K H ws us → WpsAt K H' ws us
  | _, _, .nil => .nil
  | _, _, .cons ⟨r, y, e, h1, h2⟩ t => .cons ⟨r, y, e, h1.tups tt, h2.tups tt⟩ (WpsAt.tups tt t)
theorem WpsAt.append {K : PySem.W.Frag} {H : Hp} : ∀ {ws ws' : List (T × Bool)} {us us' : List V}, WpsAt K H ws us → WpsAt K H ws' us' → WpsAt K H (ws ++ ws') (us ++ us')
  | _, _, _, _, .nil, k => k
  | _, _, _, _, .cons a t, k => .cons a (WpsAt.append t k)
theorem WpsAt.reverse {K : PySem.W.Frag} {H : Hp} : ∀ {ws : List (T × Bool)} {us : List V}, WpsAt K H ws us → WpsAt K H ws.reverse us.reverse
  | _, _, .nil => .nil
  | _, _, .cons a t => by rw [List.reverse_cons, List.reverse_cons]; exact (WpsAt.reverse t).append (.cons a .nil)
theorem call_isStr2 {X : Cx} : CallR X (.builtin "isinstance") (rIsStr X.K) := call_isStr
def spPut (P : Program) (w : World) (K : PySem.W.Frag) (cS : Addr) : Sp := fun vs H Q _ => ∃ (s e nm sz dp : Addr) (vals : List T) (v : V) (t : T), vs = [.ref s, v] ∧ StAt P w K cS H s e nm sz dp vals ∧ Rep K H t v ∧ t.size ≤ 200000 ∧ vals.length + 3 * t.size ≤ 1000000 ∧
  StNext P w K cS H s e nm sz dp vals (3 * t.size) t Q
abbrev sPut : Stmt := inClass (top 30) 6
theorem sc_sPut : FnScope ["self", "value", "waiting", "made", "one", "is_ready", "item", "found", "items", "_"] ["self", "value"] (defScope sPut) := ⟨rfl, rfl, rfl, by decide +kernel, rfl, by decide +kernel, by decide +kernel⟩
section
variable {P : Program} {w : World} {K : PySem.W.Frag} {mg : Str → Option Value} {base : Heap} {cS : Addr}
theorem ok_put {f fN : Addr} {fd fdN : FuncData} (B : Bl mg) (TS : TxtS K mg cS) (D : MDf K cS "put" "Store.put" sPut ["self", "value"] f fd) (DN : MDf K cS "number_of" "Store.number_of" sNumberOf ["self", "entry"] fN fdN)
    (GN : FnOk P w K mg base CX0 1 fN fdN ["self", "entry"] (spNumberOf P w K cS)) : FnOk P w K mg base CX0 2 f fd ["self", "value"] (spPut P w K cS) := by
  refine D.F.ok sc_sPut (fun vs H Q XE h => ?_) (fun cdv A outer st H vs Q XE hr h => ?_)
  · obtain ⟨s, e, nm, sz, dp, vals, v, t, rfl, _⟩ := h
    rfl
  · obtain ⟨s, e, nm, sz, dp, vals, v, t, rfl, hst, hrep, htz, hlen, k⟩ := h
    have nd := sc_sPut.nd
    obtain ⟨tZ, eZ⟩ := TS.empty
    refine ⟨_,
      (pss_cons (ps_set (i := 2) nd rfl (.inl rfl) (pe_lst (pa_cons (pe_tup (pa_cons (pv 1) (pa_cons pe_bl pa_nil))) pa_nil)))
      (pss_cons (ps_set (i := 3) nd rfl (.inr rfl) (pe_lst pa_nil))
      (pss_cons (ps_while PassesOwn.never (pt_cmpR op_gt (pe_callB call_len_seq (by rfl) B.len PySem.boot_len (pa_cons (pv 2) pa_nil)) pe_int (nomark _))
      (pss_cons (ps_asg (pe_bm0 PySem.F.plainAttrs_list PySem.F.slot_list_pop PySem.F.type_list_pop mt_pop (pv 2)) (pg_tup (by rfl) (pgs_cons (pg_name (i := 4) nd rfl (.inl rfl)) (pgs_cons (pg_name (i := 5) nd rfl (.inl rfl)) pgs_nil))))
      (pss_one (ps_if (pt_val (pe_callB call_isStr (by rfl) B.isinstance PyProof.Rows.boot_isinstance (pa_cons (pv 4) (pa_cons (pe_bltn (v := .ty "str") (by rfl) B.str PyProof.Rows.boot_str rfl) pa_nil))))
      (pss_one (ps_expr (pe_bm PySem.F.plainAttrs_list PySem.F.slot_list_append PySem.F.type_list_append mt_append (pv 3) (pa_cons (pe_meth (pv 0) TS.cl DN.m GN hr DN.b .nil pass0 (pa_cons (pv 4) pa_nil)) pa_nil))))
      (pss_one (ps_if (pt_not (pt_val (pv 5)))
      (pss_cons (ps_expr (pe_bm PySem.F.plainAttrs_list PySem.F.slot_list_append PySem.F.type_list_append mt_append (pv 2) (pa_cons (pe_tup (pa_cons (pv 4) (pa_cons pe_bl pa_nil))) pa_nil)))
      (pss_one (ps_expr (pe_bm PySem.F.plainAttrs_list PySem.F.slot_list_extend PySem.F.type_list_extend mt_extend (pv 2) (pa_cons (pe_lc (own := [("item", 6)]) (g := gName 6) (tt := tYes) (by rfl) nd (pi_tup (pv 4)) (blkOk_by (own := [("item", 6)]) (N := ["self", "value", "waiting", "made", "one", "is_ready", "item", "found", "items", "_"]) (sc := defScope sPut) (by decide +kernel)) (fun _ _ _ _ _ => (pg_name (i := 6) nd rfl (Or.inl rfl))) (fun _ _ _ _ _ => by exact pts_nil) (fun _ _ _ _ _ => by exact (pe_tup (pa_cons (pv 6) (pa_cons pe_bl pa_nil))))) pa_nil)))))
      (pss_cons (ps_set (i := 7) nd rfl (.inl rfl) (pe_glob (v := .int 0) (by rfl) eZ ⟨_, rfl⟩))
      (pss_cons (ps_setLc (i := 8) (te := tBM0 K "list" rPop (tVar 3)) (own := [("_", 9)]) (g := gName 9) (tt := tYes) (by rfl) nd rfl rfl (sw_true rfl rfl rfl (by decide +kernel)) (pi_tup (pv 4)) (blkOk_by (own := [("_", 9)]) (N := ["self", "value", "waiting", "made", "one", "is_ready", "item", "found", "items", "_"]) (sc := defScope sPut) (by decide +kernel)) (fun _ _ _ _ _ => (pg_name (i := 9) nd rfl (Or.inl rfl))) (fun _ _ _ _ _ => by exact pts_nil) (fun _ _ _ _ _ => by exact (pe_bm0 PySem.F.plainAttrs_list PySem.F.slot_list_pop PySem.F.type_list_pop mt_pop (pv 3))))
      (pss_cons (ps_for PassesOwn.never rfl (RT.pi_revA (by rfl) B.reversed (pv 8)) (pg_name (i := 6) nd rfl (.inl rfl))
      (pss_one (ps_set (i := 7) nd rfl (.inl rfl) (pe_meth (pv 0) TS.cl DN.m GN hr DN.b .nil pass0 (pa_cons (pe_tup (pa_cons (pv 6) (pa_cons (pv 7) pa_nil))) pa_nil)))))
      (pss_one (ps_expr (pe_bm PySem.F.plainAttrs_list PySem.F.slot_list_append PySem.F.type_list_append mt_append (pv 3) (pa_cons (pv 7) pa_nil)))))))))))))
      (pss_one (ps_ret (pe_ix ix_list (pv 3) pe_int (fun _ _ => rfl)))))))
      , ?_⟩
    have hs : sizeLine = 16777216 := rfl
    refine ⟨_, rfl, (by show 2 ≤ sizeLine; decide), fun q hq => ?_⟩
    refine ⟨(by show 1 ≤ sizeLine; decide), fun p1 hp1 => ⟨(by show 0 ≤ sizeLine; decide), fun p2 hp2 => ?_⟩⟩
    have hq1 : H p1 = none := (same_upd hq).trans (Same.refl _) |> fun S => S.free hp1
    have S1 : Same H (upd (upd H q (.tup [v, .bl false])) p1 (.lst [.ref q])) := (same_upd hq).upd hq1
    have hq2 : H p2 = none := S1.free hp2
    have n12 : p1 ≠ p2 := fun z => by rw [← z, upd_same] at hp2; cases hp2
    have nq1 : q ≠ p1 := fun z => by rw [← z, upd_same] at hp1; cases hp1
    have nq2 : q ≠ p2 := fun z => by rw [← z, upd_ne nq1, upd_same] at hp2; cases hp2
    have S2 : Same H (upd (upd (upd H q (.tup [v, .bl false])) p1 (.lst [.ref q])) p2 (.lst [])) := S1.upd hq2
    have ads : ∀ b ∈ s :: adS e nm sz dp, b ≠ p1 ∧ b ≠ p2 := fun b hb => ⟨fun z => hst.there hb (z ▸ hq1), fun z => hst.there hb (z ▸ hq2)⟩
    refine ⟨fun m σ H' => ∃ (ws : List (T × Bool)) (us : List V) (M : List T) (ns : List Nat) (more : List T) (x4 x5 x6 x7 x8 x9 : Option V), σ = [some (.ref s), some v, some (.ref p1), some (.ref p2), x4, x5, x6, x7, x8, x9] ∧ Kp (adS e nm sz dp) H H' ∧ StAt P w K cS H' s e nm sz dp (vals ++ more) ∧
      H' p1 = some (.lst us.reverse) ∧ WpsAt K H' ws us ∧ H' p2 = some (.lst (ns.reverse.map vint)) ∧ Nums (vals ++ more) ns M ∧ Fin t ws M ∧ M.length + pil ws ≤ 3 * t.size ∧ more.length + pil ws ≤ 3 * t.size ∧ m = pil ws,
      ⟨_, [(t, false)], [.ref q], [], [], [], none, none, none, none, none, none, rfl, Kp.of_same S2, by rw [List.append_nil]; exact hst.same S2, by rw [upd_ne n12, upd_same]; rfl, ?_, upd_same, .nil, rfl, ?_, ?_, rfl⟩, ?_⟩
    · exact .cons ⟨q, v, rfl, SqT.of (by rw [upd_ne nq2, upd_ne nq1, upd_same]), hrep.same S2⟩ .nil
    · simp only [pil, List.map_cons, List.map_nil, List.sum_cons, List.sum_nil, pi1, List.length_nil]; omega
    · simp only [pil, List.map_cons, List.map_nil, List.sum_cons, List.sum_nil, pi1, List.length_nil]; omega
    clear hp1 hp2 S1 S2 hq nq1 nq2
    have hnp1 : p1 ∉ adS e nm sz dp := fun z => (ads p1 (List.mem_cons_of_mem _ z)).1 rfl
    have hnp2 : p2 ∉ adS e nm sz dp := fun z => (ads p2 (List.mem_cons_of_mem _ z)).2 rfl
    rintro m σ H' ⟨ws, us, M, ns, more, x4, x5, x6, x7, x8, x9, rfl, kp, hs', h1, hw, h2, hns, hfin, hM, hmore, rfl⟩
    have hul := Paired.length hw
    have hwl := pil_len ws
    have hnl := hns.length
    refine ⟨_, rfl, p1, _, rfl, .inl (SqL.of h1), _, _, rfl, rfl, _, rfl, ?_⟩
    cases hw with
    | nil =>
      rw [decide_eq_false (show ¬ ((0 : Int) < ((([] : List V).reverse.length : Nat) : Int)) by decide)]
      have hfin : M = [t] := hfin
      subst hfin
      obtain ⟨n, ms, rfl, q1, q2⟩ := hns.cons_eq
      have := q2.nil_eq
      subst this
      refine iteF ⟨_, rfl, p2, _, _, _, rfl, rfl, SqL.of h2, at0, ?_⟩
      exact k H' more n kp hs' (by omega) q1
    | @cons a u ws us hau hw =>
      rw [decide_eq_true (show (0 : Int) < (((u :: us).reverse.length : Nat) : Int) by simp)]
      refine iteT ?_
      refine ⟨fun σ' H1 => ∃ (ws' : List (T × Bool)) (us : List V) (M : List T) (ns : List Nat) (more : List T) (x4 x5 x6 x7 x8 x9 : Option V), σ' = [some (.ref s), some v, some (.ref p1), some (.ref p2), x4, x5, x6, x7, x8, x9] ∧ Kp (adS e nm sz dp) H H1 ∧ StAt P w K cS H1 s e nm sz dp (vals ++ more) ∧
        H1 p1 = some (.lst us.reverse) ∧ WpsAt K H1 ws' us ∧ H1 p2 = some (.lst (ns.reverse.map vint)) ∧ Nums (vals ++ more) ns M ∧ Fin t ws' M ∧ M.length + pil ws' ≤ 3 * t.size ∧ more.length + pil ws' ≤ 3 * t.size ∧ pil ws' < pil (a :: ws), ?_, ?_⟩
      · rintro σ' H1 ⟨ws', us, M, ns, more, x4, x5, x6, x7, x8, x9, rfl, b1, b2, b3, b4, b5, b6, b7, b8, b9, b10⟩
        exact ⟨_, b10, ws', us, M, ns, more, x4, x5, x6, x7, x8, x9, rfl, b1, b2, b3, b4, b5, b6, b7, b8, b9, rfl⟩
      have hpc := pil_cons a ws
      obtain ⟨r, y, rfl, hrT, hry⟩ := hau
      refine ⟨_, rfl, .inl ⟨rfl, _, SqL.of h1⟩, p1, _, _, rfl, rfl, h1, rev_last _ _, ?_⟩
      rw [dropLast_rev]
      have tt : Tups H' (upd H' p1 (.lst us.reverse)) := Tups.upd h1 trivial
      have kp1 : Kp (adS e nm sz dp) H (upd H' p1 (.lst us.reverse)) := kp.upd (.inr hq1)
      have hs1 : StAt P w K cS (upd H' p1 (.lst us.reverse)) s e nm sz dp (vals ++ more) := hs'.upd hst hq1 tt
      have g1 : upd H' p1 (.lst us.reverse) p1 = some (.lst us.reverse) := upd_same
      have g2 : upd H' p1 (.lst us.reverse) p2 = some (.lst (ns.reverse.map vint)) := by rw [upd_ne n12.symm]; exact h2
      have gw := WpsAt.tups tt hw
      have gT := hrT.tups tt
      have gy := hry.tups tt
      clear hw hrT hry h1 h2 hs' kp
      generalize upd H' p1 (.lst us.reverse) = H2 at *
      refine ⟨r, _, rfl, gT, rfl, _, _, rfl, _, _, rfl, rfl, ?_⟩
      obtain ⟨a, b⟩ := a
      have gy : Rep K H2 a y := gy
      refine ⟨_, rfl, a, y, rfl, gy, _, rfl, ?_⟩
      cases a with
      | w x =>
        have := gy.w_eq
        subst this
        obtain ⟨dx, ho⟩ := hs1.obj
        have hp1x : b = false := by
          cases b with
          | false => rfl
          | true => obtain ⟨ts, M', e, _⟩ := hfin; cases e
        subst hp1x
        have hfin : Fin t ws (.w x :: M) := hfin
        have e1 : pi1 (T.w x, false) = 2 := rfl
        refine iteT ⟨_, rfl, .inl ⟨rfl, _, SqL.of g2⟩, _, rfl, s, dx, _, rfl, ho, rfl, _, rfl, s, e, nm, sz, dp, vals ++ more, .str x, .inl x, .w x, rfl, hs1, rfl, rfl, by rw [List.length_append]; omega, fun H3 more3 n kp3 st3 hl3 hn3 => ?_⟩
        have tt3 := kp3.tups hs1.noTup
        have i1 := kp3.keep p1 _ hnp1 g1
        have i2 := kp3.keep p2 _ hnp2 g2
        refine ⟨p2, _, _, rfl, rfl, i2, by rw [List.length_map, List.length_reverse]; omega, ?_⟩
        have tt4 : Tups H3 (upd H3 p2 (.lst (ns.reverse.map vint ++ [vint n]))) := Tups.upd i2 trivial
        rw [List.append_assoc] at st3 hn3
        refine ⟨ws, us, .w x :: M, n :: ns, more ++ more3, _, _, _, _, _, _, rfl, (kp1.trans kp3).upd (.inr hq2), st3.upd hst hq2 tt4, by rw [upd_ne n12]; exact i1, WpsAt.tups tt4 (WpsAt.tups tt3 gw), by rw [upd_same]; simp, .cons hn3 (by rw [← List.append_assoc]; exact hns.mono _), hfin, ?_, ?_, ?_⟩
        · rw [List.length_cons]; omega
        · rw [List.length_append]; omega
        · omega
      | l ts =>
        obtain ⟨ya, ys, rfl, hyT, hys⟩ := gy.l_eq
        have hyl := hys.length
        have hsz := pil_items ts
        have elz : (T.l ts).size = sizeL ts := rfl
        cases b with
        | false =>
          have hfin : Fin t ws (.l ts :: M) := hfin
          have e1 : pi1 (T.l ts, false) = 3 * sizeL ts - 1 := rfl
          have hpos := size_pos (T.l ts)
          refine iteF ⟨_, rfl, _, rfl, iteT ?_⟩
          refine ⟨_, rfl, .inl ⟨rfl, _, SqL.of g1⟩, _, rfl, (by show 2 ≤ sizeLine; decide), fun c hc => ?_⟩
          have nc1 : p1 ≠ c := ne_of_none g1 hc
          have nc2 : p2 ≠ c := ne_of_none g2 hc
          simp only [List.length_cons] at hul hwl
          refine ⟨p1, us.reverse, _, rfl, rfl, (by rw [upd_ne nc1]; exact g1), (by rw [List.length_reverse]; omega), ?_⟩
          have tt1 : Tups H2 (upd (upd H2 c (.tup [.ref ya, .bl true])) p1 (.lst (us.reverse ++ [.ref c]))) := Tups.trans (same_upd hc).tups (Tups.upd (u := .lst us.reverse) (by rw [upd_ne nc1]; exact g1) trivial)
          have hc0 : H c = none := kp1.free hc
          have kp2 : Kp (adS e nm sz dp) H (upd (upd H2 c (.tup [.ref ya, .bl true])) p1 (.lst (us.reverse ++ [.ref c]))) := (kp1.upd (.inr hc0)).upd (.inr hq1)
          have hs2 : StAt P w K cS (upd (upd H2 c (.tup [.ref ya, .bl true])) p1 (.lst (us.reverse ++ [.ref c]))) s e nm sz dp (vals ++ more) := hs1.keep (fun b hb => by
            have zc : b ≠ c := fun z => hs1.there hb (by rw [z]; exact hc)
            rw [upd_ne (ads b hb).1, upd_ne zc]) tt1
          have j1 : upd (upd H2 c (.tup [.ref ya, .bl true])) p1 (.lst (us.reverse ++ [.ref c])) p1 = some (.lst (us.reverse ++ [.ref c])) := upd_same
          have j2 : upd (upd H2 c (.tup [.ref ya, .bl true])) p1 (.lst (us.reverse ++ [.ref c])) p2 = some (.lst (ns.reverse.map vint)) := by rw [upd_ne n12.symm, upd_ne nc2]; exact g2
          have jc : upd (upd H2 c (.tup [.ref ya, .bl true])) p1 (.lst (us.reverse ++ [.ref c])) c = some (.tup [.ref ya, .bl true]) := by rw [upd_ne nc1.symm, upd_same]
          have jw := WpsAt.tups tt1 gw
          have jT := hyT.tups tt1
          have js := Reps.tups tt1 hys
          clear gw gT gy g1 g2 kp1 hs1 tt1
          generalize upd (upd H2 c (.tup [.ref ya, .bl true])) p1 (.lst (us.reverse ++ [.ref c])) = H3 at *
          refine ⟨_, rfl, .inl ⟨rfl, _, SqL.of j1⟩, _, rfl, ya, rfl, ⟨ys, jT⟩, fun D hD => ?_⟩
          have nD1 : p1 ≠ D := ne_of_none j1 hD
          have hlts : ts.length ≤ 200000 * 3 := by omega
          refine lc_tup (xs := ys) (fun i H' => ∃ cs : List V, Same H3 H' ∧ H' D = some (.lst cs) ∧ WpsAt K H' ((ts.take i).map fun t => (t, false)) cs ∧ cs.length = i) ⟨[], same_upd hD, upd_same, .nil, rfl⟩ (fun i H' _ h => by obtain ⟨cs, S, _⟩ := h; exact jT.same S) ?_ ?_
          · rintro i x H' hx ⟨cs, S, d1, d2, d3⟩
            obtain ⟨tx, htx, hxr⟩ := js.getV hx
            have hi := (List.getElem?_eq_some_iff.mp htx).1
            refine ⟨rfl, ?_⟩
            refine ⟨_, rfl, (by show 2 ≤ sizeLine; decide), fun b hb => ⟨cs, by rw [upd_ne (ne_of_none d1 hb)]; exact d1, by omega, ?_⟩⟩
            have Sb := same_upd (o := .tup [x, .bl false]) hb
            have d1' : upd H' b (.tup [x, .bl false]) D = some (.lst cs) := Sb _ _ d1
            have ttD : Tups (upd H' b (.tup [x, .bl false])) (upd (upd H' b (.tup [x, .bl false])) D (.lst (cs ++ [.ref b]))) := Tups.upd d1' trivial
            refine ⟨cs ++ [.ref b], (S.trans Sb).upd hD, upd_same, ?_, by rw [List.length_append, d3]; rfl⟩
            have et : ts.take (i + 1) = ts.take i ++ [tx] := by rw [List.take_succ, htx]; rfl
            rw [et, List.map_append]
            refine (WpsAt.tups ttD (WpsAt.tups Sb.tups d2)).append (.cons ⟨b, x, rfl, SqT.of (by rw [upd_ne (ne_of_none d1 hb).symm, upd_same]), ?_⟩ .nil)
            exact ((hxr.same S).same Sb).tups ttD
          · rintro H4 ⟨cs, S, d1, d2, d3⟩
            rw [hyl, List.take_length] at d2
            rw [hyl] at d3
            have k1 := S _ _ j1
            refine ⟨p1, D, _, cs, rfl, rfl, k1, d1, by rw [List.length_append, List.length_reverse, List.length_singleton]; omega, ?_⟩
            have tt5 : Tups H4 (upd H4 p1 (.lst (us.reverse ++ [.ref c] ++ cs))) := Tups.upd k1 trivial
            refine ⟨ts.reverse.map (fun t => (t, false)) ++ (.l ts, true) :: ws, cs.reverse ++ .ref c :: us, M, ns, more, _, _, _, _, _, _, rfl, (kp2.trans (Kp.of_same S)).upd (.inr hq1), (hs2.same S).upd hst hq1 tt5, by rw [upd_same]; simp, ?_, by rw [upd_ne n12.symm]; exact S _ _ j2, hns, fin_items ⟨ts, M, rfl, rfl, hfin⟩, ?_, ?_, ?_⟩
            · rw [List.map_reverse]
              exact (WpsAt.tups tt5 d2).reverse.append (.cons ⟨c, .ref ya, rfl, SqT.of (by rw [upd_ne nc1.symm]; exact S _ _ jc), Rep.l ((jT.same S).tups tt5) ((js.same S).tups tt5)⟩ (WpsAt.tups tt5 (WpsAt.tups S.tups jw)))
            · rw [pil_append, pil_cons]
              have e2 : pi1 (T.l ts, true) = ts.length + 1 := rfl
              omega
            · rw [pil_append, pil_cons]
              have e2 : pi1 (T.l ts, true) = ts.length + 1 := rfl
              omega
            · rw [pil_append, pil_cons]
              have e2 : pi1 (T.l ts, true) = ts.length + 1 := rfl
              omega
        | true =>
          obtain ⟨ts', M', e9, rfl, hfin⟩ := hfin
          cases e9
          have e1 : pi1 (T.l ts, true) = ts.length + 1 := rfl
          obtain ⟨hn1, hn2⟩ := hns.split
          have hn1l := hn1.length
          have hle : ts.length ≤ ns.length := by rw [hnl, List.length_append]; omega
          rw [List.length_append] at hM hnl
          simp only [List.length_cons] at hul hwl
          refine iteF ⟨_, rfl, _, rfl, iteF ⟨_, rfl, ya, rfl, ⟨ys, hyT⟩, fun D hD => ?_⟩⟩
          have nD1 : p1 ≠ D := ne_of_none g1 hD
          have nD2 : p2 ≠ D := ne_of_none g2 hD
          have hD0 : H D = none := kp1.free hD
          refine lc_tup (xs := ys) (fun i H' => Kp [p2] H2 H' ∧ H' p2 = some (.lst ((ns.drop i).reverse.map vint)) ∧ H' D = some (.lst ((ns.take i).map vint))) ⟨Kp.of_same (same_upd hD), by rw [upd_ne nD2]; exact g2, upd_same⟩ (fun i H' _ h => ?_) ?_ ?_
          · obtain ⟨h1, _⟩ := h
            refine hyT.tups (h1.tups (fun b hb => ?_))
            rw [List.mem_singleton.mp hb, g2]
            exact ⟨(fun _ q => by cases q), (fun _ _ q => by cases q)⟩
          · rintro i x H' hx ⟨d1, d2, d3⟩
            have hi : i < ts.length := by
              have := (List.getElem?_eq_some_iff.mp hx).1
              omega
            obtain ⟨n, hn⟩ : ∃ n, ns[i]? = some n := ⟨_, List.getElem?_eq_getElem (by omega)⟩
            have hdr : ns.drop i = n :: ns.drop (i + 1) := by
              have h0 : i < ns.length := by omega
              rw [List.drop_eq_getElem_cons h0]
              rw [List.getElem?_eq_getElem h0] at hn
              rw [Option.some.inj hn]
            have htk : ns.take (i + 1) = ns.take i ++ [n] := by rw [List.take_succ, hn]; rfl
            refine ⟨rfl, ?_⟩
            refine ⟨_, rfl, .inl ⟨rfl, _, SqL.of d2⟩, p2, _, vint n, rfl, rfl, d2, ?_, ?_⟩
            · rw [hdr, List.reverse_cons, List.map_append, List.map_cons, List.map_nil, List.length_append, List.length_singleton, Nat.add_sub_cancel, List.getElem?_append_right (Nat.le_refl _), Nat.sub_self]
              rfl
            · have edl : ((ns.drop i).reverse.map vint).dropLast = (ns.drop (i + 1)).reverse.map vint := by
                rw [hdr, List.reverse_cons, List.map_append, List.map_cons, List.map_nil, List.dropLast_concat]
              rw [edl]
              refine ⟨_, by rw [upd_ne nD2.symm]; exact d3, by rw [List.length_map, List.length_take]; omega, (d1.upd (.inl (by simp))).upd (.inr hD), by rw [upd_ne nD2, upd_same], by rw [upd_same, htk, List.map_append]; rfl⟩
          · rintro H4 ⟨d1, d2, d3⟩
            rw [hyl] at d2 d3
            have tt4 : Tups H2 H4 := d1.tups (fun b hb => by
              rw [List.mem_singleton.mp hb, g2]
              exact ⟨(fun _ q => by cases q), (fun _ _ q => by cases q)⟩)
            have i1 := d1.keep p1 _ (by simpa using n12) g1
            have hs4 : StAt P w K cS H4 s e nm sz dp (vals ++ more) := hs1.keep (fun b hb => by
              cases hbb : H2 b with
              | none => exact absurd hbb (hs1.there hb)
              | some u => exact d1.keep b u (by simpa using (ads b hb).2) hbb) tt4
            have kp4 : Kp (adS e nm sz dp) H H4 := by
              have : Kp (p2 :: adS e nm sz dp) H H4 := (kp1.mono (fun x hx => List.mem_cons_of_mem _ hx)).trans (d1.mono (fun x hx => by rw [List.mem_singleton.mp hx]; simp))
              exact this.forget hq2
            have jw := WpsAt.tups tt4 gw
            have jT := hyT.tups tt4
            have js := Reps.tups tt4 hys
            have hDa : D ∉ adS e nm sz dp := fun z => hs1.there (List.mem_cons_of_mem _ z) hD
            clear gw gT gy g1 g2 kp1 hs1 d1 hyT hys hD
            generalize hns1 : ns.take ts.length = n1 at *
            generalize hns2 : ns.drop ts.length = n2 at *
            -- for item in reversed(items)
            refine ⟨_, rfl, D, _, rfl, .inl ⟨SqL.of d3, ?_⟩⟩
            refine RT.for_Itv (fun i σ' H' => ∃ (nf : Nat) (more' : List T) (x6 : Option V), σ' = [some (.ref s), some v, some (.ref p1), some (.ref p2), some (.ref ya), some (.bl true), x6, some (.int (nf : Int)), some (.ref D), x9] ∧ Kp (adS e nm sz dp) H H' ∧ StAt P w K cS H' s e nm sz dp (vals ++ (more ++ more')) ∧
              H' p1 = some (.lst us.reverse) ∧ WpsAt K H' ws us ∧ H' p2 = some (.lst (n2.reverse.map vint)) ∧ H' D = some (.lst (n1.map vint)) ∧ more'.length ≤ i ∧ (vals ++ (more ++ more'))[nf]? = some (.l (ts.drop (ts.length - i)))) ?_ ?_ ?_ ?_
            · refine ⟨0, [], _, rfl, kp4, by rw [List.append_nil]; exact hs4, i1, jw, d2, d3, Nat.zero_le _, ?_⟩
              rw [List.append_nil, Nat.sub_zero, List.drop_length]
              exact hs4.zero
            · rintro i σ' H' ⟨nf, more', x6, rfl, _, _, _, _, _, c, _⟩
              exact SqL.of c
            · rintro i x σ' H' hi hx ⟨nf, more', x6, rfl, c1, c2, c3, c4, c5, c6, c7, c8⟩
              rw [List.length_map] at hi hx
              rw [List.getElem?_map, Option.map_eq_some_iff] at hx
              obtain ⟨n, hn, rfl⟩ := hx
              obtain ⟨ti, hti, hvi⟩ := hn1.get' hn
              rw [hn1l] at hi hti
              have hvi : (vals ++ (more ++ more'))[n]? = some ti := by rw [← List.append_assoc]; exact get_more hvi _
              have hdrop : ts.drop (ts.length - (i + 1)) = ti :: ts.drop (ts.length - i) := by
                have h0 : ts.length - (i + 1) < ts.length := by omega
                rw [List.drop_eq_getElem_cons h0]
                have h1 : ts[ts.length - (i + 1)]? = some ti := by rw [show ts.length - (i + 1) = ts.length - 1 - i by omega]; exact hti
                rw [List.getElem?_eq_getElem h0] at h1
                rw [Option.some.inj h1, show ts.length - (i + 1) + 1 = ts.length - i by omega]
              obtain ⟨dx, ho⟩ := c2.obj
              refine ⟨_, rfl, s, dx, _, rfl, ho, rfl, _, rfl, _, rfl, (by show 2 ≤ sizeLine; decide), fun b hb => ?_⟩
              have Sb := same_upd (o := .tup [.int (n : Int), .int (nf : Int)]) hb
              refine ⟨s, e, nm, sz, dp, vals ++ (more ++ more'), .ref b, .inr ((n : Int), (nf : Int)), .l (ti :: ts.drop (ts.length - i)), rfl, c2.same Sb, ⟨b, rfl, upd_same⟩, ⟨n, nf, ti, _, rfl, hvi, c8, rfl⟩, by rw [List.length_append, List.length_append]; omega, fun H5 more5 n5 kp5 st5 hl5 hn5 => ?_⟩
              have tt5 := kp5.tups (c2.same Sb).noTup
              rw [List.append_assoc, List.append_assoc] at st5 hn5
              refine ⟨n5, more' ++ more5, _, rfl, (c1.trans (Kp.of_same Sb)).trans kp5, st5, kp5.keep p1 _ hnp1 (Sb _ _ c3), WpsAt.tups tt5 (WpsAt.tups Sb.tups c4), kp5.keep p2 _ hnp2 (Sb _ _ c5), kp5.keep D _ hDa (Sb _ _ c6), by rw [List.length_append]; omega, ?_⟩
              rw [hdrop]
              exact hn5
            · rintro σ' H' ⟨nf, more', x6, rfl, c1, c2, c3, c4, c5, c6, c7, c8⟩
              rw [List.length_map, hn1l, Nat.sub_self, List.drop_zero] at c8
              rw [List.length_map, hn1l] at c7
              have hn2l := hn2.length
              refine ⟨_, rfl, .inl ⟨rfl, _, SqL.of c5⟩, _, rfl, p2, _, _, rfl, rfl, c5, by rw [List.length_map, List.length_reverse]; omega, ?_⟩
              have tt6 : Tups H' (upd H' p2 (.lst (n2.reverse.map vint ++ [vint nf]))) := Tups.upd c5 trivial
              refine ⟨ws, us, .l ts :: M', nf :: n2, more ++ more', _, _, _, _, _, _, rfl, c1.upd (.inr hq2), c2.upd hst hq2 tt6, by rw [upd_ne n12]; exact c3, WpsAt.tups tt6 c4, by rw [upd_same]; simp, .cons c8 (by rw [← List.append_assoc]; exact hn2.mono _), hfin, ?_, ?_, ?_⟩
              · rw [List.length_cons]; omega
              · rw [List.length_append]; omega
              · omega
end
end K46
/-! How the making of a value goes on. -/
namespace K46
open PySem

def Closed (vals : List T) : Prop := ∀ (i : Nat) (a : T) (as : List T), vals[i]? = some (.l (a :: as)) → ∃ j l : Nat, j < i ∧ l < i ∧ vals[j]? = some a ∧ vals[l]? = some (.l as)
theorem nums_of {vals : List T} (hc : Closed vals) : ∀ (n : Nat) (ts : List T), vals[n]? = some (.l ts) → ∃ ns, Nums vals ns ts ∧ ∀ j ∈ ns, j < n := by
  intro n
  induction n using Nat.strongRecOn with
  | ind n ih =>
    intro ts h
    cases ts with
    | nil => exact ⟨[], .nil, fun _ h => nomatch h⟩
    | cons a as =>
      obtain ⟨j, l, h1, h2, h3, h4⟩ := hc n a as h
      obtain ⟨ns, h5, h6⟩ := ih l h2 as h4
      refine ⟨j :: ns, .cons h3 h5, fun i hi => ?_⟩
      rcases List.mem_cons.mp hi with rfl | hi
      · exact h1
      · exact Nat.lt_trans (h6 i hi) h2
theorem Nums.uniq {vals : List T} (nd : vals.Nodup) : ∀ {ts : List T} {ns ms : List Nat}, Nums vals ns ts → Nums vals ms ts → ns = ms
  | [], ns, ms, h, k => by rw [h.nil_eq, k.nil_eq]
  | t :: ts, ns, ms, h, k => by
    obtain ⟨n, ns, rfl, h1, h2⟩ := h.cons_eq
    obtain ⟨m, ms, rfl, k1, k2⟩ := k.cons_eq
    rw [nodup_get nd h1 k1, Nums.uniq nd h2 k2]
def setB (B : Nat → Bool) (n : Nat) : Nat → Bool := fun j => if j = n then true else B j
/-- so many turns to the end -/
inductive Ends (vals : List T) (Bd n0 : Nat) : Nat → (Nat → Bool) → List Nat → Prop
  | fin {B : Nat → Bool} : B n0 = true → Ends vals Bd n0 0 B []
  | pop {B : Nat → Bool} {n m : Nat} {W : List Nat} : B n = true → Ends vals Bd n0 m B W → Ends vals Bd n0 (m + 1) B (n :: W)
  | word {B : Nat → Bool} {n m : Nat} {W : List Nat} {x : Str} : B n = false → vals[n]? = some (.w x) → Ends vals Bd n0 m (setB B n) (n :: W) → Ends vals Bd n0 (m + 1) B (n :: W)
  | build {B : Nat → Bool} {n m : Nat} {W ns : List Nat} {ts : List T} : B n = false → vals[n]? = some (.l ts) → Nums vals ns ts → (∀ j ∈ ns, B j = true) → Ends vals Bd n0 m (setB B n) (n :: W) → Ends vals Bd n0 (m + 1) B (n :: W)
  | more {B : Nat → Bool} {n m : Nat} {W ns : List Nat} {ts : List T} : B n = false → vals[n]? = some (.l ts) → Nums vals ns ts → ns.filter (fun j => !B j) ≠ [] → ((ns.filter (fun j => !B j)).reverse ++ n :: W).length ≤ Bd →
    Ends vals Bd n0 m B ((ns.filter (fun j => !B j)).reverse ++ n :: W) → Ends vals Bd n0 (m + 1) B (n :: W)
def szOf (vals : List T) (j : Nat) : Nat := ((vals[j]?).map T.size).getD 0
def szs (vals : List T) (js : List Nat) : Nat := (js.map (szOf vals)).sum
theorem szs_nums {vals : List T} : ∀ {ts : List T} {ns : List Nat}, Nums vals ns ts → szs vals ns + 1 = sizeL ts
  | [], ns, h => by rw [h.nil_eq]; simp [szs, sizeL]
  | t :: ts, ns, h => by
    obtain ⟨n, ns, rfl, h1, h2⟩ := h.cons_eq
    have := szs_nums h2
    simp only [szs, List.map_cons, List.sum_cons, sizeL] at this ⊢
    have e : szOf vals n = t.size := by unfold szOf; rw [h1]; rfl
    omega
theorem szs_filter {vals : List T} (p : Nat → Bool) : ∀ js : List Nat, szs vals (js.filter p) ≤ szs vals js
  | [] => Nat.le_refl _
  | j :: js => by
    have ih := szs_filter (vals := vals) p js
    rw [List.filter_cons]
    split
    · simp only [szs, List.map_cons, List.sum_cons] at ih ⊢; omega
    · simp only [szs, List.map_cons, List.sum_cons] at ih ⊢; omega
theorem szs_reverse {vals : List T} (js : List Nat) : szs vals js.reverse = szs vals js := by simp [szs]
theorem szs_len {vals : List T} : ∀ {js : List Nat}, (∀ j ∈ js, ∃ u, vals[j]? = some u) → js.length ≤ szs vals js
  | [], _ => Nat.le_refl _
  | j :: js, h => by
    have ih := szs_len (vals := vals) (js := js) fun i hi => h i (List.mem_cons_of_mem _ hi)
    obtain ⟨u, hu⟩ := h j List.mem_cons_self
    have := size_pos u
    have e : szOf vals j = u.size := by unfold szOf; rw [hu]; rfl
    simp only [szs, List.map_cons, List.sum_cons, List.length_cons] at ih ⊢
    omega
section
variable {vals : List T} {Bd n0 : Nat}
theorem ends_many {n : Nat} (h1 : ∀ j t, j < n → vals[j]? = some t → ∀ (B : Nat → Bool) (W : List Nat), W.length + t.size ≤ Bd → (∀ B' : Nat → Bool, (∀ j, B j = true → B' j = true) → B' j = true → ∃ m, Ends vals Bd n0 m B' W) → ∃ m, Ends vals Bd n0 m B (j :: W)) :
    ∀ (js : List Nat) (B : Nat → Bool) (W : List Nat), (∀ j ∈ js, j < n ∧ ∃ u, vals[j]? = some u) → W.length + szs vals js ≤ Bd → (∀ B' : Nat → Bool, (∀ j, B j = true → B' j = true) → (∀ j ∈ js, B' j = true) → ∃ m, Ends vals Bd n0 m B' W) → ∃ m, Ends vals Bd n0 m B (js ++ W)
  | [], B, W, _, _, k => k B (fun _ h => h) (fun _ h => nomatch h)
  | j :: js, B, W, hj, hb, k => by
    obtain ⟨hlt, u, hu⟩ := hj j List.mem_cons_self
    have hjs : ∀ i ∈ js, i < n ∧ ∃ u, vals[i]? = some u := fun i hi => hj i (List.mem_cons_of_mem _ hi)
    have e : szOf vals j = u.size := by unfold szOf; rw [hu]; rfl
    have hl := szs_len (vals := vals) (js := js) fun i hi => (hjs i hi).2
    simp only [szs, List.map_cons, List.sum_cons] at hb hl
    refine h1 j u hlt hu B (js ++ W) (by rw [List.length_append]; omega) fun B' hB' hBj => ?_
    refine ends_many h1 js B' W hjs (by show _ + (js.map (szOf vals)).sum ≤ Bd; omega) fun B'' hB'' hBjs => ?_
    refine k B'' (fun i hi => hB'' i (hB' i hi)) fun i hi => ?_
    rcases List.mem_cons.mp hi with rfl | hi
    · exact hB'' _ hBj
    · exact hBjs i hi
theorem ends_one (hc : Closed vals) : ∀ (n : Nat) (t : T), vals[n]? = some t → ∀ (B : Nat → Bool) (W : List Nat), W.length + t.size ≤ Bd → (∀ B' : Nat → Bool, (∀ j, B j = true → B' j = true) → B' n = true → ∃ m, Ends vals Bd n0 m B' W) → ∃ m, Ends vals Bd n0 m B (n :: W) := by
  intro n
  induction n using Nat.strongRecOn with
  | ind n ih =>
    intro t ht B W hb k
    have two : ∀ B' : Nat → Bool, (∀ j, B j = true → B' j = true) → ∃ m, Ends vals Bd n0 m (setB B' n) (n :: W) := fun B' hB' => by
      obtain ⟨m, hm⟩ := k (setB B' n) (fun j hj => by unfold setB; split <;> first | rfl | exact hB' j hj) (by simp [setB])
      exact ⟨m + 1, .pop (by simp [setB]) hm⟩
    cases hB : B n with
    | true =>
      obtain ⟨m, hm⟩ := k B (fun _ h => h) hB
      exact ⟨m + 1, .pop hB hm⟩
    | false =>
      cases t with
      | w x =>
        obtain ⟨m, hm⟩ := two B fun _ h => h
        exact ⟨m + 1, .word hB ht hm⟩
      | l ts =>
        obtain ⟨ns, h1, h2⟩ := nums_of hc n ts ht
        have hsz := szs_nums h1
        have elz : (T.l ts).size = sizeL ts := rfl
        by_cases hm : ns.filter (fun j => !B j) = []
        · obtain ⟨m, hm2⟩ := two B fun _ h => h
          refine ⟨m + 1, .build hB ht h1 (fun j hj => ?_) hm2⟩
          rw [List.filter_eq_nil_iff] at hm
          have := hm j hj
          simpa using this
        · have hall : ∀ j ∈ ns, ∃ u, vals[j]? = some u := fun j hj => by
            obtain ⟨i, hi⟩ := List.getElem?_of_mem hj
            obtain ⟨u, _, hu⟩ := h1.get' hi
            exact ⟨u, hu⟩
          have hf := szs_filter (vals := vals) (fun j => !B j) ns
          have hl := szs_len (vals := vals) (js := ns.filter (fun j => !B j)) fun j hj => hall j (List.mem_filter.mp hj).1
          obtain ⟨m, hm2⟩ := ends_many (n := n) (fun j t hj => ih j hj t) (ns.filter (fun j => !B j)).reverse B (n :: W) (fun j hj => by
            have := (List.mem_filter.mp (List.mem_reverse.mp hj)).1
            exact ⟨h2 j this, hall j this⟩) (by rw [szs_reverse, List.length_cons]; omega) (fun B' hB' hBm => by
              have hns : ∀ j ∈ ns, B' j = true := fun j hj => by
                cases e : B j with
                | true => exact hB' j e
                | false => exact hBm j (List.mem_reverse.mpr (List.mem_filter.mpr ⟨hj, by rw [e]; rfl⟩))
              cases e : B' n with
              | true =>
                obtain ⟨m, hm⟩ := k B' hB' e
                exact ⟨m + 1, .pop e hm⟩
              | false =>
                obtain ⟨m, hm⟩ := two B' hB'
                exact ⟨m + 1, .build e ht h1 hns hm⟩)
          refine ⟨m + 1, .more hB ht h1 hm ?_ hm2⟩
          rw [List.length_append, List.length_reverse, List.length_cons]
          omega
end
theorem nodup_len : ∀ (N : Nat) (l : List Nat), l.Nodup → (∀ x ∈ l, x < N) → l.length ≤ N
  | 0, [], _, _ => Nat.le_refl _
  | 0, x :: l, _, h => absurd (h x List.mem_cons_self) (Nat.not_lt_zero _)
  | N + 1, l, nd, h => by
    by_cases hm : N ∈ l
    · have h1 := nodup_len N (l.erase N) (nd.erase N) fun x hx => by
        rw [nd.mem_erase_iff] at hx
        have := h x hx.2
        have := hx.1
        omega
      rw [List.length_erase_of_mem hm] at h1
      omega
    · have h1 := nodup_len N l nd fun x hx => by
        have := h x hx
        have : x ≠ N := fun e => hm (e ▸ hx)
        omega
      omega
end K46
/-! Store: value_of. -/
namespace K46
open PySem PySem.Spec PyProof.Rows L2

def spValueOf (P : Program) (w : World) (K : PySem.W.Frag) (cS : Addr) : Sp := fun vs H Q _ => ∃ (s e nm sz dp : Addr) (vals : List T) (n : Nat) (t : T), vs = [.ref s, .int (n : Int)] ∧ StAt P w K cS H s e nm sz dp vals ∧ vals[n]? = some t ∧ t.size ≤ 200000 ∧ vals.length ≤ 1000000 ∧
  ∀ r H', Same H H' → Rep K H' t r → Q r H'
abbrev sValueOf : Stmt := inClass (top 30) 8
theorem sc_sValueOf : FnScope ["self", "number", "built", "waiting", "one", "items", "missing", "item"] ["self", "number"] (defScope sValueOf) := ⟨rfl, rfl, rfl, by decide +kernel, rfl, by decide +kernel, by decide +kernel⟩
theorem len_idx {vals : List T} (hc : Closed vals) : ∀ (n : Nat) (ts : List T), vals[n]? = some (.l ts) → ts.length ≤ n := by
  intro n
  induction n using Nat.strongRecOn with
  | ind n ih =>
    intro ts h
    cases ts with
    | nil => exact Nat.zero_le _
    | cons a as =>
      obtain ⟨j, l, h1, h2, h3, h4⟩ := hc n a as h
      have := ih l h2 as h4
      rw [List.length_cons]
      omega
/-- what is made so far -/
structure BuiltAt (K : PySem.W.Frag) (H : Hp) (vals : List T) (d : Addr) (kvs : List (Key × V)) (js : List Nat) (Bf : Nat → Bool) : Prop where
  at_ : H d = some (.dK kvs)
  keys : kvs.map (·.1) = js.map (fun j : Nat => (Sum.inl (j : Int) : Key))
  nd : js.Nodup
  lt : ∀ j ∈ js, j < vals.length
  has : ∀ j : Nat, Bf j = (valV kvs (.inl (j : Int))).isSome
  rep : ∀ (j : Nat) (v : V), valV kvs (.inl (j : Int)) = some v → ∃ t, vals[j]? = some t ∧ Rep K H t v
theorem BuiltAt.len {K : PySem.W.Frag} {H : Hp} {vals : List T} {d : Addr} {kvs : List (Key × V)} {js : List Nat} {Bf : Nat → Bool} (b : BuiltAt K H vals d kvs js Bf) : kvs.length ≤ vals.length := by
  have h1 := congrArg List.length b.keys
  rw [List.length_map, List.length_map] at h1
  rw [h1]
  exact nodup_len _ _ b.nd b.lt
theorem BuiltAt.keep {K : PySem.W.Frag} {H H' : Hp} {vals : List T} {d : Addr} {kvs : List (Key × V)} {js : List Nat} {Bf : Nat → Bool} (b : BuiltAt K H vals d kvs js Bf) (e : H' d = H d) (tt : Tups H H') : BuiltAt K H' vals d kvs js Bf :=
  ⟨e.trans b.at_, b.keys, b.nd, b.lt, b.has, fun j v h => let ⟨t, h1, h2⟩ := b.rep j v h; ⟨t, h1, h2.tups tt⟩⟩
theorem BuiltAt.get {K : PySem.W.Frag} {H : Hp} {vals : List T} {d : Addr} {kvs : List (Key × V)} {js : List Nat} {Bf : Nat → Bool} (b : BuiltAt K H vals d kvs js Bf) {j : Nat} {t : T} (h : Bf j = true) (ht : vals[j]? = some t) : ∃ v, valV kvs (.inl (j : Int)) = some v ∧ Rep K H t v := by
  rw [b.has, Option.isSome_iff_exists] at h
  obtain ⟨v, hv⟩ := h
  obtain ⟨t', h1, h2⟩ := b.rep j v hv
  rw [ht] at h1
  cases h1
  exact ⟨v, hv, h2⟩
theorem BuiltAt.put {K : PySem.W.Frag} {H : Hp} {vals : List T} {d : Addr} {kvs : List (Key × V)} {js : List Nat} {Bf : Nat → Bool} (b : BuiltAt K H vals d kvs js Bf) {j : Nat} {t : T} {v : V} (h : Bf j = false) (ht : vals[j]? = some t) (hv : Rep K H t v) :
    BuiltAt K (upd H d (.dK (putK kvs (.inl (j : Int)) v))) vals d (putK kvs (.inl (j : Int)) v) (js ++ [j]) (setB Bf j) := by
  have hn : valV kvs (.inl (j : Int)) = none := by
    rw [b.has] at h
    cases e : valV kvs (.inl (j : Int)) with
    | none => rfl
    | some v => rw [e] at h; cases h
  have tt : Tups H (upd H d (.dK (putK kvs (.inl (j : Int)) v))) := Tups.upd b.at_ trivial
  refine ⟨upd_same, ?_, ?_, ?_, fun i => ?_, fun i u hu => ?_⟩
  · rw [putK_new _ hn, List.map_append, b.keys, List.map_append]; rfl
  · rw [List.nodup_append]
    refine ⟨b.nd, by simp, fun a ha c hc => ?_⟩
    rw [List.mem_singleton.mp hc]
    rintro rfl
    refine valV_not hn ?_
    rw [b.keys]
    exact List.mem_map.mpr ⟨a, ha, rfl⟩
  · intro i hi
    rcases List.mem_append.mp hi with hi | hi
    · exact b.lt i hi
    · rw [List.mem_singleton.mp hi]; exact (List.getElem?_eq_some_iff.mp ht).1
  · rw [valV_put]
    unfold setB
    by_cases e : i = j
    · subst e; rw [if_pos rfl, if_pos rfl]; rfl
    · rw [if_neg e, if_neg (fun q => e (by have := Sum.inl.inj q; omega)), b.has]
  · rw [valV_put] at hu
    by_cases e : i = j
    · subst e
      rw [if_pos rfl] at hu
      cases hu
      exact ⟨t, ht, hv.tups tt⟩
    · rw [if_neg (fun q => e (by have := Sum.inl.inj q; omega))] at hu
      obtain ⟨t', h1, h2⟩ := b.rep i u hu
      exact ⟨t', h1, h2.tups tt⟩
section
variable {P : Program} {w : World} {K : PySem.W.Frag} {mg : Str → Option Value} {base : Heap} {cS : Addr}
theorem ok_valueOf {f fW fI : Addr} {fd fdW fdI : FuncData} (B : Bl mg) (TS : TxtS K mg cS) (D : MDf K cS "value_of" "Store.value_of" sValueOf ["self", "number"] f fd) (DW : MDf K cS "is_word" "Store.is_word" sSIsWord ["self", "number"] fW fdW)
    (GW : FnOk P w K mg base CX0 1 fW fdW ["self", "number"] (spSIsWord P w K cS)) (DI : MDf K cS "items_of" "Store.items_of" sItemsOf ["self", "number"] fI fdI) (GI : FnOk P w K mg base CX0 1 fI fdI ["self", "number"] (spItemsOf P w K cS)) :
    FnOk P w K mg base CX0 2 f fd ["self", "number"] (spValueOf P w K cS) := by
  refine D.F.ok sc_sValueOf (fun vs H Q XE h => ?_) (fun cdv A outer st H vs Q XE hr h => ?_)
  · obtain ⟨s, e, nm, sz, dp, vals, n, t, rfl, _⟩ := h
    rfl
  · obtain ⟨s, e, nm, sz, dp, vals, n, t, rfl, hst, hn, htz, hlen, k⟩ := h
    have nd := sc_sValueOf.nd
    have hu := hu_of hr
    obtain ⟨tZ, eZ⟩ := TS.empty
    refine ⟨_,
      (pss_cons (ps_set (i := 2) nd rfl (.inr rfl) (pe_disp (pps_cons (pe_glob (v := .int 0) (by rfl) eZ ⟨_, rfl⟩) (pe_tup pa_nil) pps_nil) rfl rfl (fun h => nomatch h) (by show 1 ≤ 15; decide)))
      (pss_cons (ps_set (i := 3) nd rfl (.inl rfl) (pe_lst (pa_cons (pv 1) pa_nil)))
      (pss_cons (ps_while PassesOwn.never (pt_cmpR op_gt (pe_callB call_len_seq (by rfl) B.len PySem.boot_len (pa_cons (pv 3) pa_nil)) pe_int (nomark _))
      (pss_cons (ps_set (i := 4) nd rfl (.inl rfl) (pe_ix ix_list (pv 3) (pe_un un_neg pe_int) (fun _ _ => rfl)))
      (pss_one (ps_if (pt_cmp (pc_din hu (pv 4) (pv 2)) (by rfl))
      (pss_one (ps_expr (pe_bm0 PySem.F.plainAttrs_list PySem.F.slot_list_pop PySem.F.type_list_pop mt_pop (pv 3))))
      (pss_one (ps_if (pt_val (pe_meth (pv 0) TS.cl DW.m GW hr DW.b .nil pass0 (pa_cons (pv 4) pa_nil)))
      (pss_one (ps_dput hu (pv 2) (pv 4) (pe_ix ix_list (pe_fld (pv 0) rfl) (pv 4) (fun _ _ => rfl)) rfl))
      (pss_cons (ps_set (i := 5) nd rfl (.inl rfl) (pe_meth (pv 0) TS.cl DI.m GI hr DI.b .nil pass0 (pa_cons (pv 4) pa_nil)))
      (pss_cons (ps_setLc (i := 6) (own := [("item", 7)]) (g := gName 7) (tt := _) (by rfl) nd rfl rfl (sw_true rfl rfl rfl (by decide +kernel)) (pi_list (pv 5)) (blkOk_by (own := [("item", 7)]) (N := ["self", "number", "built", "waiting", "one", "items", "missing", "item"]) (sc := defScope sValueOf) (by decide +kernel)) (fun _ _ _ _ _ => (pg_name (i := 7) nd rfl (Or.inl rfl))) (fun _ _ _ _ _ => by exact (pts_one (pt_cmp (pc_dnotin hu (pv 7) (pv 2)) (by rfl)))) (fun _ _ _ _ _ => by exact (pv 7)))
      (pss_cons (ps_if (pt_cmpR op_eq (pe_callB call_len_seq (by rfl) B.len PySem.boot_len (pa_cons (pv 6) pa_nil)) pe_int (nomark _))
      (pss_one (ps_dput hu (pv 2) (pv 4) (pe_callTy call_tupOf (by rfl) B.tuple PyProof.Rows.boot_tuple (pa_cons (pe_lc (own := [("item", 7)]) (g := gName 7) (tt := tYes) (by rfl) nd (pi_list (pv 5)) (blkOk_by (own := [("item", 7)]) (N := ["self", "number", "built", "waiting", "one", "items", "missing", "item"]) (sc := defScope sValueOf) (by decide +kernel)) (fun _ _ _ _ _ => (pg_name (i := 7) nd rfl (Or.inl rfl))) (fun _ _ _ _ _ => by exact pts_nil) (fun _ _ _ _ _ => by exact (pe_dget hu (pv 2) (pv 7) (fun _ _ => rfl)))) pa_nil)) rfl))
      pss_nil)
      (pss_one (ps_expr (pe_bm PySem.F.plainAttrs_list PySem.F.slot_list_extend PySem.F.type_list_extend mt_extend (pv 3) (pa_cons (pv 6) pa_nil)))))))))))))
      (pss_one (ps_ret (pe_dget hu (pv 2) (pv 1) (fun _ _ => rfl)))))))
      , ?_⟩
    have hs : sizeLine = 16777216 := rfl
    refine fun d hd => ⟨(by show 0 ≤ sizeLine; decide), fun e0 he0 => ⟨by rw [upd_ne (ne_of_none upd_same he0)]; exact upd_same, [(Sum.inl 0, .ref e0)], rfl, (by show 1 ≤ 15; decide), ?_⟩⟩
    have nde : d ≠ e0 := ne_of_none upd_same he0
    have hc : Closed vals := fun i a as h => hst.closed h
    have S1 : Same H (upd (upd (upd H d (.dK [])) e0 (.tup [])) d (.dK (mergeK [] [(Sum.inl 0, .ref e0)]))) := ((same_upd hd).upd ((same_upd hd).free he0)).upd hd
    have b1 : BuiltAt K (upd (upd (upd H d (.dK [])) e0 (.tup [])) d (.dK (mergeK [] [(Sum.inl 0, .ref e0)]))) vals d [(Sum.inl 0, .ref e0)] [0] (fun j => (valV [((Sum.inl 0 : Key), V.ref e0)] (.inl (j : Int))).isSome) := by
      refine ⟨upd_same, rfl, by simp, fun j hj => by rw [List.mem_singleton.mp hj]; exact hst.pos, fun j => rfl, fun j v hv => ?_⟩
      by_cases e : j = 0
      · subst e
        rw [show valV [((Sum.inl 0 : Key), V.ref e0)] (.inl ((0 : Nat) : Int)) = some (.ref e0) from rfl] at hv
        cases hv
        exact ⟨_, hst.zero, Rep.l (SqT.of (by rw [upd_ne nde.symm, upd_same])) .nil⟩
      · rw [valV_neg (fun q => e (by have := Sum.inl.inj q; omega))] at hv
        cases hv
    obtain ⟨m0, hm0⟩ := ends_one (Bd := 1000000) (n0 := n) hc n t hn (fun j => (valV [((Sum.inl 0 : Key), V.ref e0)] (.inl (j : Int))).isSome) [] (by simp only [List.length_nil]; omega) fun B' _ hB' => ⟨0, .fin hB'⟩
    generalize upd (upd (upd H d (.dK [])) e0 (.tup [])) d (.dK (mergeK [] [(Sum.inl 0, .ref e0)])) = H1 at *
    generalize (fun j : Nat => (valV [((Sum.inl 0 : Key), V.ref e0)] (.inl (j : Int))).isSome) = Bf0 at *
    refine ⟨_, rfl, (by show 1 ≤ sizeLine; decide), fun p hp => ?_⟩
    have ndp : d ≠ p := ne_of_none b1.at_ hp
    have hp0 : H p = none := S1.free hp
    refine ⟨fun m σ H' => ∃ (Bf : Nat → Bool) (W : List Nat) (kvs : List (Key × V)) (js : List Nat) (x4 x5 x6 x7 : Option V), σ = [some (.ref s), some (.int (n : Int)), some (.ref d), some (.ref p), x4, x5, x6, x7] ∧ Same H H' ∧ BuiltAt K H' vals d kvs js Bf ∧ H' p = some (.lst (W.reverse.map vint)) ∧ Ends vals 1000000 n m Bf W ∧ W.length ≤ 1000000,
      ⟨m0, Bf0, [n], _, _, none, none, none, none, rfl, S1.upd hp0, b1.keep (upd_ne ndp) (same_upd hp).tups, upd_same, hm0, by simp⟩, ?_⟩
    clear b1 hm0 he0 nde S1 hp
    rintro m σ H' ⟨Bf, W, kvs, js, x4, x5, x6, x7, rfl, S, hb, h1, hE, hW⟩
    have hbl := hb.len
    refine ⟨_, rfl, p, _, rfl, .inl (SqL.of h1), _, _, rfl, rfl, _, rfl, ?_⟩
    rw [List.length_map, List.length_reverse]
    cases W with
    | nil =>
      cases hE with
      | fin hB =>
        rw [decide_eq_false (show ¬ ((0 : Int) < ((([] : List Nat).length : Nat) : Int)) by decide)]
        obtain ⟨v, hv, hr⟩ := hb.get hB hn
        have hg : DGet H' d (.int (n : Int)) (some v) := by rw [← hv]; exact DGet.k (k := .inl (n : Int)) hb.at_
        exact iteF ⟨_, rfl, _, rfl, d, v, rfl, hg, k v H' S hr⟩
    | cons o W =>
      rw [decide_eq_true (show (0 : Int) < (((o :: W).length : Nat) : Int) by rw [List.length_cons]; omega)]
      refine iteT ?_
      have hrev : (o :: W).reverse.map vint = (vint o :: W.map vint).reverse := by rw [List.map_reverse]; rfl
      rw [hrev] at h1
      have next : ∀ m', Ends vals 1000000 n m' = Ends vals 1000000 n m' := fun _ => rfl
      have hst' := hst.same S
      obtain ⟨dx, ho⟩ := hst'.obj
      have hdg : DGet H' d (.int (o : Int)) (valV kvs (.inl (o : Int))) := DGet.k (k := .inl (o : Int)) hb.at_
      have hbo := hb.has o
      -- the next state
      have nx : ∀ (m' : Nat), m' < m → ∀ (σ' : L2.St) (H1 : Hp), (∃ (Bf : Nat → Bool) (W : List Nat) (kvs : List (Key × V)) (js : List Nat) (x4 x5 x6 x7 : Option V), σ' = [some (.ref s), some (.int (n : Int)), some (.ref d), some (.ref p), x4, x5, x6, x7] ∧ Same H H1 ∧ BuiltAt K H1 vals d kvs js Bf ∧ H1 p = some (.lst (W.reverse.map vint)) ∧ Ends vals 1000000 n m' Bf W ∧ W.length ≤ 1000000) →
          ∃ m', m' < m ∧ ∃ (Bf : Nat → Bool) (W : List Nat) (kvs : List (Key × V)) (js : List Nat) (x4 x5 x6 x7 : Option V), σ' = [some (.ref s), some (.int (n : Int)), some (.ref d), some (.ref p), x4, x5, x6, x7] ∧ Same H H1 ∧ BuiltAt K H1 vals d kvs js Bf ∧ H1 p = some (.lst (W.reverse.map vint)) ∧ Ends vals 1000000 n m' Bf W ∧ W.length ≤ 1000000 := fun m' hm' σ' H1 h => ⟨m', hm', h⟩
      rw [List.length_cons] at hW
      cases hE with
      | @pop _ _ m _ hB hE =>
        refine ⟨_, nx m (Nat.lt_succ_self _), ?_⟩
        refine ⟨_, rfl, _, rfl, p, _, _, _, rfl, rfl, SqL.of h1, atI_revlast _ _, ?_⟩
        refine ⟨_, rfl, _, rfl, d, _, rfl, hdg, _, rfl, ?_⟩
        rw [← hbo, hB]
        refine iteT ⟨_, rfl, .inl ⟨rfl, _, SqL.of h1⟩, p, _, _, rfl, rfl, h1, rev_last _ _, ?_⟩
        rw [dropLast_rev]
        have tt : Tups H' (upd H' p (.lst (W.map vint).reverse)) := Tups.upd h1 trivial
        exact ⟨Bf, W, kvs, js, _, _, _, _, rfl, S.upd hp0, hb.keep (upd_ne ndp) tt, by rw [upd_same, List.map_reverse], hE, by omega⟩
      | @word _ _ m _ x hB hx hE =>
        refine ⟨_, nx m (Nat.lt_succ_self _), ?_⟩
        refine ⟨_, rfl, _, rfl, p, _, _, _, rfl, rfl, SqL.of h1, atI_revlast _ _, ?_⟩
        refine ⟨_, rfl, _, rfl, d, _, rfl, hdg, _, rfl, ?_⟩
        rw [← hbo, hB]
        refine iteF ⟨_, rfl, s, dx, _, rfl, ho, rfl, _, rfl, s, e, nm, sz, dp, vals, o, _, rfl, hst', hx, _, rfl, iteT ?_⟩
        obtain ⟨us, h2, hl, hen⟩ := hst'.ents
        obtain ⟨u, hu1, hu2⟩ := hen o _ hx
        cases (show u = .str x from hu2)
        refine ⟨_, rfl, s, cS, dx, _, _, rfl, ho, TS.cl, TS.nE, rfl, _, rfl, e, _, _, _, rfl, rfl, SqL.of h2, atI_nat hu1, _, rfl, _, rfl, d, _, rfl, DPut.k (k := .inl (o : Int)) hb.at_ (by omega), ?_⟩
        exact ⟨_, o :: W, _, _, _, _, _, _, rfl, S.upd hd, hb.put hB hx .w, by rw [upd_ne ndp.symm, hrev]; exact h1, hE, by rw [List.length_cons]; omega⟩
      | @build _ _ m _ ns ts hB hx hns hall hE =>
        refine ⟨_, nx m (Nat.lt_succ_self _), ?_⟩
        refine ⟨_, rfl, _, rfl, p, _, _, _, rfl, rfl, SqL.of h1, atI_revlast _ _, ?_⟩
        refine ⟨_, rfl, _, rfl, d, _, rfl, hdg, _, rfl, ?_⟩
        rw [← hbo, hB]
        refine iteF ⟨_, rfl, s, dx, _, rfl, ho, rfl, _, rfl, s, e, nm, sz, dp, vals, o, _, rfl, hst', hx, _, rfl, iteF ?_⟩
        have htl : ts.length ≤ 1000000 := by
          have := len_idx hc o ts hx
          have := (List.getElem?_eq_some_iff.mp hx).1
          omega
        refine ⟨_, rfl, s, dx, _, rfl, ho, rfl, _, rfl, s, e, nm, sz, dp, vals, o, ts, rfl, hst', hx, htl, fun H2 q ns' S2 hq0 hq hns' => ?_⟩
        have := Nums.uniq hst.nd hns' hns
        subst this
        have b2 := hb.keep (S2 _ _ hb.at_ |>.trans hb.at_.symm) S2.tups
        have p2 := S2 _ _ h1
        have nqp : p ≠ q := fun z => by rw [← z, h1] at hq0; cases hq0
        have nqd : d ≠ q := fun z => by have := hb.at_; rw [z, hq0] at this; cases this
        refine ⟨_, rfl, q, rfl, ⟨_, SqL.of hq⟩, fun D hD => ?_⟩
        have hnl := hns.length
        refine lc_list (xs := ns'.map vint) (fun i H3 => Same H2 H3 ∧ H3 D = some (.lst (((ns'.take i).filter (fun j => !Bf j)).map vint))) ⟨same_upd hD, upd_same⟩ (fun i H3 _ h => SqL.of (h.1 _ _ hq)) ?_ ?_
        · rintro i x H3 hx3 ⟨S3, h3⟩
          rw [List.getElem?_map, Option.map_eq_some_iff] at hx3
          obtain ⟨j, hj, rfl⟩ := hx3
          have htk : ns'.take (i + 1) = ns'.take i ++ [j] := by rw [List.take_succ, hj]; rfl
          have hi := (List.getElem?_eq_some_iff.mp hj).1
          have hfl : ((ns'.take i).filter (fun j => !Bf j)).length ≤ i := Nat.le_trans (List.length_filter_le _ _) (by rw [List.length_take]; omega)
          refine ⟨rfl, ?_⟩
          refine ⟨_, rfl, _, rfl, d, _, rfl, DGet.k (k := .inl (j : Int)) (S3 _ _ b2.at_), _, rfl, ?_⟩
          rw [← b2.has j]
          cases hBj : Bf j with
          | true =>
            refine iteF ⟨S3, ?_⟩
            rw [h3, htk, List.filter_append, List.filter_cons, hBj]
            simp
          | false =>
            refine iteT ⟨_, rfl, _, h3, by rw [List.length_map]; omega, S3.upd hD, ?_⟩
            rw [upd_same, htk, List.filter_append, List.filter_cons, hBj]
            simp
        rintro H3 ⟨S3, h3⟩
        rw [List.length_map, List.take_length] at h3
        have b3 := b2.keep (S3 _ _ b2.at_ |>.trans b2.at_.symm) S3.tups
        have p3 := S3 _ _ p2
        have q3 := S3 _ _ hq
        have npD : p ≠ D := ne_of_none p2 hD
        have hD0 : H D = none := (S.trans S2).free hD
        have SS := (S.trans S2).trans S3
        have hnil : ns'.filter (fun j => !Bf j) = [] := by
          rw [List.filter_eq_nil_iff]
          intro j hj
          rw [hall j hj]
          decide
        rw [hnil] at h3
        refine ⟨_, rfl, D, _, rfl, .inl (SqL.of h3), rfl, ?_⟩
        rw [decide_eq_true (show V.int (((([] : List Nat).map vint).length : Nat) : Int) = V.int 0 from rfl)]
        refine ⟨_, rfl, iteT ?_⟩
        refine ⟨_, rfl, q, rfl, ⟨_, SqL.of q3⟩, fun R hR => ?_⟩
        refine lc_list (xs := ns'.map vint) (fun i H4 => ∃ cs : List V, Same H3 H4 ∧ H4 R = some (.lst cs) ∧ Reps K H3 (ts.take i) cs) ⟨[], same_upd hR, upd_same, .nil⟩ (fun i H4 _ h => by obtain ⟨cs, S4, _⟩ := h; exact SqL.of (S4 _ _ q3)) ?_ ?_
        · rintro i x H4 hx4 ⟨cs, S4, h4, hcs⟩
          rw [List.getElem?_map, Option.map_eq_some_iff] at hx4
          obtain ⟨j, hj, rfl⟩ := hx4
          obtain ⟨tj, htj, hvj⟩ := hns.get' hj
          have hcl := hcs.length
          rw [List.length_take] at hcl
          have htk : ts.take (i + 1) = ts.take i ++ [tj] := by rw [List.take_succ, htj]; rfl
          obtain ⟨v, hv, hr'⟩ := b3.get (hall j (List.mem_of_getElem? hj)) hvj
          have hg : DGet H4 d (.int (j : Int)) (some v) := by rw [← hv]; exact DGet.k (k := .inl (j : Int)) (S4 _ _ b3.at_)
          refine ⟨rfl, ?_⟩
          refine ⟨_, rfl, _, rfl, d, v, rfl, hg, cs, h4, by omega, cs ++ [v], S4.upd hR, upd_same, ?_⟩
          rw [htk]
          exact hcs.snoc hr'
        · rintro H4 ⟨cs, S4, h4, hcs⟩
          rw [List.length_map, hnl, List.take_length] at hcs
          refine ⟨R, cs, rfl, SqL.of h4, fun l H5 S5 hT => ?_⟩
          have S35 := S4.trans S5
          have b5 := b3.keep (S35 _ _ b3.at_ |>.trans b3.at_.symm) S35.tups
          have p5 := S35 _ _ p3
          have D5 := S35 _ _ h3
          have hrep5 : Rep K H5 (.l ts) (.ref l) := Rep.l hT (hcs.same S35)
          refine ⟨_, rfl, _, rfl, d, _, rfl, DPut.k (k := .inl (o : Int)) b5.at_ (by omega), ?_⟩
          have b6 := b5.put hB hx hrep5
          have p6 : upd H5 d (.dK (putK kvs (.inl (o : Int)) (.ref l))) p = some (.lst (vint o :: W.map vint).reverse) := by rw [upd_ne ndp.symm]; exact p5
          have ndD : D ≠ d := fun z => by have := b5.at_; rw [← z, D5] at this; cases this
          have D6 : upd H5 d (.dK (putK kvs (.inl (o : Int)) (.ref l))) D = some (.lst []) := by rw [upd_ne ndD]; exact D5
          have SS6 : Same H (upd H5 d (.dK (putK kvs (.inl (o : Int)) (.ref l)))) := (SS.trans S35).upd hd
          generalize upd H5 d (.dK (putK kvs (.inl (o : Int)) (.ref l))) = H6 at *
          refine ⟨_, rfl, .inl ⟨rfl, _, SqL.of p6⟩, _, rfl, p, D, _, _, rfl, rfl, p6, D6, by
            rw [List.length_reverse, List.length_cons, List.length_map, List.length_nil]; omega, ?_⟩
          rw [List.append_nil]
          have tt : Tups H6 (upd H6 p (.lst (vint o :: W.map vint).reverse)) := Tups.upd p6 trivial
          exact ⟨_, o :: W, _, _, _, _, _, _, rfl, SS6.upd hp0, b6.keep (upd_ne ndp) tt, by rw [upd_same, hrev], hE, by rw [List.length_cons]; omega⟩
      | @more _ _ m _ ns ts hB hx hns hne hlen2 hE =>
        refine ⟨_, nx m (Nat.lt_succ_self _), ?_⟩
        refine ⟨_, rfl, _, rfl, p, _, _, _, rfl, rfl, SqL.of h1, atI_revlast _ _, ?_⟩
        refine ⟨_, rfl, _, rfl, d, _, rfl, hdg, _, rfl, ?_⟩
        rw [← hbo, hB]
        refine iteF ⟨_, rfl, s, dx, _, rfl, ho, rfl, _, rfl, s, e, nm, sz, dp, vals, o, _, rfl, hst', hx, _, rfl, iteF ?_⟩
        have htl : ts.length ≤ 1000000 := by
          have := len_idx hc o ts hx
          have := (List.getElem?_eq_some_iff.mp hx).1
          omega
        refine ⟨_, rfl, s, dx, _, rfl, ho, rfl, _, rfl, s, e, nm, sz, dp, vals, o, ts, rfl, hst', hx, htl, fun H2 q ns' S2 hq0 hq hns' => ?_⟩
        have := Nums.uniq hst.nd hns' hns
        subst this
        have b2 := hb.keep (S2 _ _ hb.at_ |>.trans hb.at_.symm) S2.tups
        have p2 := S2 _ _ h1
        have nqp : p ≠ q := fun z => by rw [← z, h1] at hq0; cases hq0
        have nqd : d ≠ q := fun z => by have := hb.at_; rw [z, hq0] at this; cases this
        refine ⟨_, rfl, q, rfl, ⟨_, SqL.of hq⟩, fun D hD => ?_⟩
        have hnl := hns.length
        refine lc_list (xs := ns'.map vint) (fun i H3 => Same H2 H3 ∧ H3 D = some (.lst (((ns'.take i).filter (fun j => !Bf j)).map vint))) ⟨same_upd hD, upd_same⟩ (fun i H3 _ h => SqL.of (h.1 _ _ hq)) ?_ ?_
        · rintro i x H3 hx3 ⟨S3, h3⟩
          rw [List.getElem?_map, Option.map_eq_some_iff] at hx3
          obtain ⟨j, hj, rfl⟩ := hx3
          have htk : ns'.take (i + 1) = ns'.take i ++ [j] := by rw [List.take_succ, hj]; rfl
          have hi := (List.getElem?_eq_some_iff.mp hj).1
          have hfl : ((ns'.take i).filter (fun j => !Bf j)).length ≤ i := Nat.le_trans (List.length_filter_le _ _) (by rw [List.length_take]; omega)
          refine ⟨rfl, ?_⟩
          refine ⟨_, rfl, _, rfl, d, _, rfl, DGet.k (k := .inl (j : Int)) (S3 _ _ b2.at_), _, rfl, ?_⟩
          rw [← b2.has j]
          cases hBj : Bf j with
          | true =>
            refine iteF ⟨S3, ?_⟩
            rw [h3, htk, List.filter_append, List.filter_cons, hBj]
            simp
          | false =>
            refine iteT ⟨_, rfl, _, h3, by rw [List.length_map]; omega, S3.upd hD, ?_⟩
            rw [upd_same, htk, List.filter_append, List.filter_cons, hBj]
            simp
        rintro H3 ⟨S3, h3⟩
        rw [List.length_map, List.take_length] at h3
        have b3 := b2.keep (S3 _ _ b2.at_ |>.trans b2.at_.symm) S3.tups
        have p3 := S3 _ _ p2
        have q3 := S3 _ _ hq
        have npD : p ≠ D := ne_of_none p2 hD
        have hD0 : H D = none := (S.trans S2).free hD
        have SS := (S.trans S2).trans S3
        refine ⟨_, rfl, D, _, rfl, .inl (SqL.of h3), rfl, ?_⟩
        rw [decide_eq_false (show ¬ V.int ((((ns'.filter (fun j => !Bf j)).map vint).length : Nat) : Int) = V.int 0 from fun z => by
          have := V.int.inj z
          rw [List.length_map] at this
          exact hne (List.length_eq_zero_iff.mp (by omega)))]
        refine ⟨_, rfl, iteF ?_⟩
        refine ⟨_, rfl, .inl ⟨rfl, _, SqL.of p3⟩, _, rfl, p, D, _, _, rfl, rfl, p3, h3, by
          rw [List.length_append, List.length_reverse, List.length_cons] at hlen2
          rw [List.length_reverse, List.length_cons, List.length_map, List.length_map]; omega, ?_⟩
        have tt : Tups H3 (upd H3 p (.lst ((vint o :: W.map vint).reverse ++ (ns'.filter (fun j => !Bf j)).map vint))) := Tups.upd p3 trivial
        exact ⟨Bf, _, kvs, js, _, _, _, _, rfl, SS.upd hp0, b3.keep (upd_ne ndp) tt, by rw [upd_same]; simp, hE, hlen2⟩
end
end K46
/-! The package's machine, in the heap. -/
namespace K46
open PySem PySem.Spec PyProof.Rows L2

/-- where it all stands -/
structure MAd where
  m : Addr
  s : Addr
  e : Addr
  nm : Addr
  sz : Addr
  dp : Addr
  fd : Addr
  kp : Addr
  fl : Addr
  tl : Addr
abbrev MAd.own (A : MAd) : List Addr := [A.m, A.fl, A.tl]
abbrev MAd.L (A : MAd) : List Addr := [A.m, A.fl, A.tl, A.e, A.nm, A.sz, A.dp]
def fieldsM (A : MAd) (y n : Nat) : List (Str × V) := [("store", .ref A.s), ("yes", vint y), ("functions", .ref A.fd), ("keeping", .bl false), ("kept", .ref A.kp), ("pair", .non), ("steps", vint n), ("found", .ref A.fl), ("todo", .ref A.tl)]
def EnvAt (H : Hp) (vals : List T) (d : Addr) (r : List (Str × T)) : Prop := ∃ kvs, H d = some (.dK kvs) ∧ ∀ x t, r.lookup x = some t → ∃ i j : Nat, vals[i]? = some (.w x) ∧ valV kvs (.inl (i : Int)) = some (vint j) ∧ vals[j]? = some t
def TaskAt (K : PySem.W.Frag) (H : Hp) (vals : List T) : Task → V → Prop
  | .ev e r, v => ∃ (b d : Addr) (n : Nat), v = .ref b ∧ SqT K H b [.str "eval", vint n, .ref d] ∧ vals[n]? = some e.t ∧ EnvAt H vals d r ∧ e.t.wide ≤ 100
  | .br x y r, v => ∃ (b d : Addr) (n m : Nat), v = .ref b ∧ SqT K H b [.str "if", vint n, vint m, .ref d] ∧ vals[n]? = some x.t ∧ vals[m]? = some y.t ∧ EnvAt H vals d r ∧ x.t.wide ≤ 100 ∧ y.t.wide ≤ 100
  | .op w, v => ∃ b : Addr, v = .ref b ∧ SqT K H b [.str "do", .str w]
  | .call f k, v => ∃ (b : Addr) (n : Nat), v = .ref b ∧ SqT K H b [.str "call", vint n, vint k] ∧ vals[n]? = some (.w f)
def FnAt (K : PySem.W.Frag) (H : Hp) (vals : List T) (A : MAd) (fs : List (Key × V)) (fn : Fn) (i : Nat) : Prop := ∃ (a pl : Addr) (b : Nat) (pns : List Nat), valV fs (.inl (i : Int)) = some (.ref a) ∧ SqT K H a [.ref pl, vint b] ∧ H pl = some (.lst (pns.map vint)) ∧ pl ∉ A.L ∧
  Nums vals pns (fn.ps.map T.w) ∧ vals[b]? = some fn.body.t ∧ fn.body.t.wide ≤ 100 ∧ fn.ps.Nodup ∧ fn.ps.length ≤ 12
def FnsAt (K : PySem.W.Frag) (H : Hp) (vals : List T) (A : MAd) (p : Prog) : Prop := ∃ fs, H A.fd = some (.dK fs) ∧ ∀ g fn, look p g = some fn → ∃ i, vals[i]? = some (.w g) ∧ FnAt K H vals A fs fn i
structure MAt (P : Program) (w : World) (K : PySem.W.Frag) (cS cM : Addr) (H : Hp) (A : MAd) (vals : List T) (p : Prog) (a : M) : Prop where
  obj : ∃ (dx : Addr) (y : Nat), H A.m = some (.ins cM dx (fieldsM A y a.steps)) ∧ vals[y]? = some yes
  st : StAt P w K cS H A.s A.e A.nm A.sz A.dp vals
  fns : FnsAt K H vals A p
  todo : ∃ tvs : List V, H A.tl = some (.lst tvs.reverse) ∧ Paired (TaskAt K H vals) a.todo tvs
  found : ∃ ns : List Nat, H A.fl = some (.lst (ns.reverse.map vint)) ∧ Nums vals ns a.found
  ne : A.fl ≠ A.tl
  nf : A.fl ∉ adS A.e A.nm A.sz A.dp
  nt : A.tl ∉ adS A.e A.nm A.sz A.dp
/-- tuples and dicts stay -/
structure Stay (H H' : Hp) : Prop where
  tups : Tups H H'
  dks : ∀ b kvs, H b = some (.dK kvs) → H' b = some (.dK kvs)
theorem Stay.of_same {H H' : Hp} (S : Same H H') : Stay H H' := ⟨S.tups, fun b k h => S _ _ h⟩
theorem Stay.trans {H H1 H2 : Hp} (a : Stay H H1) (b : Stay H1 H2) : Stay H H2 := ⟨a.tups.trans b.tups, fun x k h => b.dks x k (a.dks x k h)⟩
theorem EnvAt.mono {H H' : Hp} {vals : List T} {d : Addr} {r : List (Str × T)} (h : EnvAt H vals d r) (y : Stay H H') (more : List T) : EnvAt H' (vals ++ more) d r := by
  obtain ⟨kvs, h1, h2⟩ := h
  refine ⟨kvs, y.dks _ _ h1, fun x t hx => ?_⟩
  obtain ⟨i, j, q1, q2, q3⟩ := h2 x t hx
  exact ⟨i, j, get_more q1 _, q2, get_more q3 _⟩
theorem TaskAt.mono {K : PySem.W.Frag} {H H' : Hp} {vals : List T} {t : Task} {v : V} (h : TaskAt K H vals t v) (y : Stay H H') (more : List T) : TaskAt K H' (vals ++ more) t v := by
  cases t with
  | ev e r =>
    obtain ⟨b, d, n, e1, h1, h2, h3, h4⟩ := h
    exact ⟨b, d, n, e1, h1.tups y.tups, get_more h2 _, h3.mono y _, h4⟩
  | br a c r =>
    obtain ⟨b, d, n, m, e1, h1, h2, h3, h4, h5⟩ := h
    exact ⟨b, d, n, m, e1, h1.tups y.tups, get_more h2 _, get_more h3 _, h4.mono y _, h5⟩
  | op w =>
    obtain ⟨b, e1, h1⟩ := h
    exact ⟨b, e1, h1.tups y.tups⟩
  | call f k =>
    obtain ⟨b, n, e1, h1, h2⟩ := h
    exact ⟨b, n, e1, h1.tups y.tups, get_more h2 _⟩
theorem TaskAt.stay {K : PySem.W.Frag} {H H' : Hp} {vals : List T} {t : Task} {v : V} (h : TaskAt K H vals t v) (y : Stay H H') : TaskAt K H' vals t v := by
  have := h.mono y []
  rwa [List.append_nil] at this
theorem tasks_mono {K : PySem.W.Frag} {H H' : Hp} {vals : List T} (y : Stay H H') (more : List T) : ∀ {ts : List Task} {vs : List V}, Paired (TaskAt K H vals) ts vs → Paired (TaskAt K H' (vals ++ more)) ts vs
  | _, _, .nil => .nil
  | _, _, .cons a t => .cons (a.mono y more) (tasks_mono y more t)
theorem tasks_stay {K : PySem.W.Frag} {H H' : Hp} {vals : List T} (y : Stay H H') {ts : List Task} {vs : List V} (h : Paired (TaskAt K H vals) ts vs) : Paired (TaskAt K H' vals) ts vs := by
  have := tasks_mono y [] h
  rwa [List.append_nil] at this
theorem FnsAt.mono {K : PySem.W.Frag} {H H' : Hp} {vals : List T} {A : MAd} {p : Prog} (h : FnsAt K H vals A p) (kp : Kp A.L H H') (y : Stay H H') (more : List T) : FnsAt K H' (vals ++ more) A p := by
  obtain ⟨fs, h1, h2⟩ := h
  refine ⟨fs, y.dks _ _ h1, fun g fn hg => ?_⟩
  obtain ⟨i, q1, a, pl, b, pns, q2, q3, q4, q5, q6, q7, q8⟩ := h2 g fn hg
  exact ⟨i, get_more q1 _, a, pl, b, pns, q2, q3.tups y.tups, kp.keep _ _ q5 q4, q5, q6.mono _, get_more q7 _, q8⟩
section
variable {P : Program} {w : World} {K : PySem.W.Frag} {cS cM : Addr} {H H' : Hp} {A : MAd} {vals : List T} {p : Prog} {a a' : M}
/-- what stands at its changing places is no tuple and no dict -/
theorem MAt.soft (h : MAt P w K cS cM H A vals p a) : ∀ b ∈ A.L, (∀ xs, H b ≠ some (.tup xs)) ∧ (∀ o xs, H b ≠ some (.frz o (.tup xs))) ∧ ∀ kvs, H b ≠ some (.dK kvs) := by
  intro b hb
  obtain ⟨us, h1, _⟩ := h.st.ents
  obtain ⟨xs, h2, _⟩ := h.st.nums
  have h2 := h2.at_
  have h3 := h.st.szs
  have h4 := h.st.dps
  obtain ⟨dx, y, h5, _⟩ := h.obj
  obtain ⟨tvs, h6, _⟩ := h.todo
  obtain ⟨ns, h7, _⟩ := h.found
  simp only [MAd.L, List.mem_cons, List.not_mem_nil, or_false] at hb
  rcases hb with rfl | rfl | rfl | rfl | rfl | rfl | rfl
  · rw [h5]; exact ⟨(fun _ q => by cases q), (fun _ _ q => by cases q), (fun _ q => by cases q)⟩
  · rw [h7]; exact ⟨(fun _ q => by cases q), (fun _ _ q => by cases q), (fun _ q => by cases q)⟩
  · rw [h6]; exact ⟨(fun _ q => by cases q), (fun _ _ q => by cases q), (fun _ q => by cases q)⟩
  · rw [h1]; exact ⟨(fun _ q => by cases q), (fun _ _ q => by cases q), (fun _ q => by cases q)⟩
  · rw [h2]; exact ⟨(fun _ q => by cases q), (fun _ _ q => by cases q), (fun _ q => by cases q)⟩
  · rw [h3]; exact ⟨(fun _ q => by cases q), (fun _ _ q => by cases q), (fun _ q => by cases q)⟩
  · rw [h4]; exact ⟨(fun _ q => by cases q), (fun _ _ q => by cases q), (fun _ q => by cases q)⟩
theorem MAt.stay (h : MAt P w K cS cM H A vals p a) (k : Kp A.L H H') : Stay H H' :=
  ⟨k.tups fun b hb => ⟨(h.soft b hb).1, (h.soft b hb).2.1⟩, fun b kvs e => k.keep b _ (fun hb => (h.soft b hb).2.2 kvs e) e⟩
theorem MAt.s_own (h : MAt P w K cS cM H A vals p a) : ∀ b ∈ A.s :: adS A.e A.nm A.sz A.dp, b ∉ A.own := by
  intro b hb hm
  obtain ⟨dx, y, h5, _⟩ := h.obj
  obtain ⟨tvs, h6, _⟩ := h.todo
  obtain ⟨ns, h7, _⟩ := h.found
  obtain ⟨dx', ho⟩ := h.st.obj
  obtain ⟨us, h1, _⟩ := h.st.ents
  obtain ⟨xs, h2, _⟩ := h.st.nums
  have h2 := h2.at_
  have h3 := h.st.szs
  have h4 := h.st.dps
  simp only [MAd.own, List.mem_cons, List.not_mem_nil, or_false] at hm
  rcases hm with rfl | rfl | rfl
  · simp only [List.mem_cons, List.not_mem_nil, or_false, adS] at hb
    rcases hb with e | e | e | e | e
    · rw [e, ho] at h5
      have := congrArg (fun o => match o with | some (HO.ins _ _ fs) => fs.length | _ => 0) h5
      simp [fieldsS, fieldsM] at this
    · rw [e, h1] at h5; cases h5
    · rw [e, h2] at h5; cases h5
    · rw [e, h3] at h5; cases h5
    · rw [e, h4] at h5; cases h5
  · rcases List.mem_cons.mp hb with e | e
    · rw [e, ho] at h7; cases h7
    · exact h.nf e
  · rcases List.mem_cons.mp hb with e | e
    · rw [e, ho] at h6; cases h6
    · exact h.nt e
theorem own_L {b : Addr} (h : b ∈ A.own) : b ∈ A.L := by
  simp only [MAd.own, MAd.L, List.mem_cons, List.not_mem_nil, or_false] at h ⊢
  rcases h with h | h | h <;> simp [h]
theorem ads_L {b : Addr} (h : b ∈ adS A.e A.nm A.sz A.dp) : b ∈ A.L := by
  simp only [adS, MAd.L, List.mem_cons, List.not_mem_nil, or_false] at h ⊢
  rcases h with h | h | h | h <;> simp [h]
/-- its own lists and steps change -/
theorem MAt.chg (h : MAt P w K cS cM H A vals p a) (k : Kp A.own H H') (obj' : ∃ (dx : Addr) (y : Nat), H' A.m = some (.ins cM dx (fieldsM A y a'.steps)) ∧ vals[y]? = some yes)
    (todo' : ∃ tvs : List V, H' A.tl = some (.lst tvs.reverse) ∧ Paired (TaskAt K H vals) a'.todo tvs) (found' : ∃ ns : List Nat, H' A.fl = some (.lst (ns.reverse.map vint)) ∧ Nums vals ns a'.found) : MAt P w K cS cM H' A vals p a' := by
  have kL : Kp A.L H H' := k.mono fun x hx => own_L hx
  have y := h.stay kL
  obtain ⟨tvs, q1, q2⟩ := todo'
  refine ⟨obj', ?_, ?_, ⟨tvs, q1, tasks_stay y q2⟩, found', h.ne, h.nf, h.nt⟩
  · refine h.st.keep (fun b hb => ?_) y.tups
    cases e : H b with
    | none => exact absurd e (h.st.there hb)
    | some u => exact k.keep b u (h.s_own b hb) e
  · have := h.fns.mono kL y []
    rwa [List.append_nil] at this
/-- the store grows -/
theorem MAt.store {more : List T} (h : MAt P w K cS cM H A vals p a) (k : Kp (adS A.e A.nm A.sz A.dp) H H') (s' : StAt P w K cS H' A.s A.e A.nm A.sz A.dp (vals ++ more)) : MAt P w K cS cM H' A (vals ++ more) p a := by
  have kL : Kp A.L H H' := k.mono fun x hx => ads_L hx
  have y := h.stay kL
  obtain ⟨dx, yn, h5, h8⟩ := h.obj
  obtain ⟨tvs, h6, h9⟩ := h.todo
  obtain ⟨ns, h7, h10⟩ := h.found
  have hm : A.m ∉ adS A.e A.nm A.sz A.dp := fun q => h.s_own _ (List.mem_cons_of_mem _ q) (by simp)
  exact ⟨⟨dx, yn, k.keep _ _ hm h5, get_more h8 _⟩, s', h.fns.mono kL y more, ⟨tvs, k.keep _ _ h.nt h6, tasks_mono y more h9⟩, ⟨ns, k.keep _ _ h.nf h7, h10.mono _⟩, h.ne, h.nf, h.nt⟩
theorem MAt.same (h : MAt P w K cS cM H A vals p a) (S : Same H H') : MAt P w K cS cM H' A vals p a := by
  have := h.store (more := []) (Kp.of_same S) (by rw [List.append_nil]; exact h.st.same S)
  rwa [List.append_nil] at this
theorem MAt.m_fl (h : MAt P w K cS cM H A vals p a) : A.m ≠ A.fl := fun q => by
  obtain ⟨dx, y, h5, _⟩ := h.obj
  obtain ⟨ns, h7, _⟩ := h.found
  rw [q, h7] at h5; cases h5
theorem MAt.m_tl (h : MAt P w K cS cM H A vals p a) : A.m ≠ A.tl := fun q => by
  obtain ⟨dx, y, h5, _⟩ := h.obj
  obtain ⟨ns, h7, _⟩ := h.todo
  rw [q, h7] at h5; cases h5
/-- the lists, as they are -/
theorem MAt.pushF (h : MAt P w K cS cM H A vals p a) {ns : List Nat} (h1 : H A.fl = some (.lst (ns.reverse.map vint))) (h2 : Nums vals ns a.found) {n : Nat} {t : T} (hn : vals[n]? = some t) :
    MAt P w K cS cM (upd H A.fl (.lst (ns.reverse.map vint ++ [vint n]))) A vals p ⟨a.todo, t :: a.found, a.steps⟩ := by
  obtain ⟨dx, y, h5, h8⟩ := h.obj
  obtain ⟨tvs, h6, h9⟩ := h.todo
  exact h.chg (Kp.refl.upd (.inl (by simp))) ⟨dx, y, by rw [upd_ne h.m_fl]; exact h5, h8⟩ ⟨tvs, by rw [upd_ne h.ne.symm]; exact h6, h9⟩ ⟨n :: ns, by rw [upd_same]; simp, .cons hn h2⟩
theorem MAt.popF (h : MAt P w K cS cM H A vals p a) {n : Nat} {ns : List Nat} {f : List T} (h2 : Nums vals ns f) :
    MAt P w K cS cM (upd H A.fl (.lst (ns.reverse.map vint))) A vals p ⟨a.todo, f, a.steps⟩ := by
  obtain ⟨dx, y, h5, h8⟩ := h.obj
  obtain ⟨tvs, h6, h9⟩ := h.todo
  exact h.chg (Kp.refl.upd (.inl (by simp))) ⟨dx, y, by rw [upd_ne h.m_fl]; exact h5, h8⟩ ⟨tvs, by rw [upd_ne h.ne.symm]; exact h6, h9⟩ ⟨ns, upd_same, h2⟩
theorem MAt.setT (h : MAt P w K cS cM H A vals p a) {ts : List Task} {tvs : List V} (h2 : Paired (TaskAt K H vals) ts tvs) :
    MAt P w K cS cM (upd H A.tl (.lst tvs.reverse)) A vals p ⟨ts, a.found, a.steps⟩ := by
  obtain ⟨dx, y, h5, h8⟩ := h.obj
  obtain ⟨ns, h6, h9⟩ := h.found
  exact h.chg (Kp.refl.upd (.inl (by simp))) ⟨dx, y, by rw [upd_ne h.m_tl]; exact h5, h8⟩ ⟨tvs, upd_same, h2⟩ ⟨ns, by rw [upd_ne h.ne]; exact h6, h9⟩
theorem MAt.setN (h : MAt P w K cS cM H A vals p a) {dx : Addr} {y n : Nat} (hy : vals[y]? = some yes) :
    MAt P w K cS cM (upd H A.m (.ins cM dx (fieldsM A y n))) A vals p ⟨a.todo, a.found, n⟩ := by
  obtain ⟨tvs, h7, h8⟩ := h.todo
  obtain ⟨ns, h6, h9⟩ := h.found
  exact h.chg (Kp.refl.upd (.inl (by simp))) ⟨dx, y, upd_same, hy⟩ ⟨tvs, by rw [upd_ne h.m_tl.symm]; exact h7, h8⟩ ⟨ns, by rw [upd_ne h.m_fl.symm]; exact h6, h9⟩
end
end K46
/-! Machine: is_done, is_great, result, do. -/
namespace K46
open PySem PySem.Spec PyProof.Rows L2

structure TxtM (K : PySem.W.Frag) (mg : Str → Option Value) (cM : Addr) : Prop where
  cl : Cls K cM
  nStore : NoAttr K cM "store"
  nYes : NoAttr K cM "yes"
  nFuns : NoAttr K cM "functions"
  nKeep : NoAttr K cM "keeping"
  nKept : NoAttr K cM "kept"
  nPair : NoAttr K cM "pair"
  nSteps : NoAttr K cM "steps"
  nFound : NoAttr K cM "found"
  nTodo : NoAttr K cM "todo"
/-- what a turn hands on -/
def MNext (P : Program) (w : World) (K : PySem.W.Frag) (cS cM : Addr) (H : Hp) (A : MAd) (vals : List T) (p : Prog) (d : Nat) (b : M) (Q : VK) : Prop :=
  ∀ (H' : Hp) (more : List T), Kp A.L H H' → MAt P w K cS cM H' A (vals ++ more) p b → more.length ≤ d → Q .non H'
def spIsDone (P : Program) (w : World) (K : PySem.W.Frag) (cS cM : Addr) : Sp := fun vs H Q _ => ∃ (A : MAd) (vals : List T) (p : Prog) (a : M), vs = [.ref A.m] ∧ MAt P w K cS cM H A vals p a ∧ Q (.bl (decide (a.todo = []))) H
def spIsGreat (P : Program) (w : World) (K : PySem.W.Frag) (cS cM : Addr) : Sp := fun vs H Q _ => ∃ (A : MAd) (vals : List T) (p : Prog) (a : M) (t : T), vs = [.ref A.m] ∧ MAt P w K cS cM H A vals p a ∧ a.found = [t] ∧ t.size ≤ 200000 ∧ t.depth ≤ 200 ∧ Q (.bl false) H
def spResult (P : Program) (w : World) (K : PySem.W.Frag) (cS cM : Addr) : Sp := fun vs H Q _ => ∃ (A : MAd) (vals : List T) (p : Prog) (a : M) (t : T), vs = [.ref A.m] ∧ MAt P w K cS cM H A vals p a ∧ a.found = [t] ∧ t.size ≤ 200000 ∧ vals.length ≤ 1000000 ∧ ∀ r H', Same H H' → Rep K H' t r → Q r H'
def spDo (P : Program) (w : World) (K : PySem.W.Frag) (cS cM : Addr) : Sp := fun vs H Q _ => ∃ (A : MAd) (vals : List T) (p : Prog) (a : M) (x : Str) (f' : List T), vs = [.ref A.m, .str x] ∧ MAt P w K cS cM H A vals p a ∧ doOp x a.found = some f' ∧ vals.length ≤ 1000000 ∧ a.found.length ≤ 10000000 ∧
  MNext P w K cS cM H A vals p 1 ⟨a.todo, f', a.steps⟩ Q
abbrev sIsDone : Stmt := inClass (top 34) 2
theorem sc_sIsDone : FnScope ["self"] ["self"] (defScope sIsDone) := ⟨rfl, rfl, rfl, by decide +kernel, rfl, by decide +kernel, by decide +kernel⟩
abbrev sIsGreat : Stmt := inClass (top 34) 6
theorem sc_sIsGreat : FnScope ["self", "number"] ["self"] (defScope sIsGreat) := ⟨rfl, rfl, rfl, by decide +kernel, rfl, by decide +kernel, by decide +kernel⟩
abbrev sResult : Stmt := inClass (top 34) 7
theorem sc_sResult : FnScope ["self"] ["self"] (defScope sResult) := ⟨rfl, rfl, rfl, by decide +kernel, rfl, by decide +kernel, by decide +kernel⟩
abbrev sDo : Stmt := inClass (top 34) 5
theorem sc_sDo : FnScope ["self", "word", "second", "first"] ["self", "word"] (defScope sDo) := ⟨rfl, rfl, rfl, by decide +kernel, rfl, by decide +kernel, by decide +kernel⟩
theorem doOp_cases {x : Str} {f0 f' : List T} (h : doOp x f0 = some f') : ∃ a f, f0 = a :: f ∧ ((x = sWord ∧ f' = ofB (isW a) :: f) ∨ (x = sHead ∧ f' = tHead a :: f) ∨ (x = sTail ∧ f' = tTail a :: f) ∨ ∃ b g, f = b :: g ∧ ((x = sSame ∧ f' = ofB (decide (b = a)) :: g) ∨ (x = sJoin ∧ f' = tJoin b a :: g))) := by
  cases f0 with
  | nil => cases h
  | cons a f =>
    refine ⟨a, f, rfl, ?_⟩
    by_cases e1 : x = sWord
    · subst e1; rw [do_word] at h; cases h; exact .inl ⟨rfl, rfl⟩
    by_cases e2 : x = sHead
    · subst e2; rw [do_head] at h; cases h; exact .inr (.inl ⟨rfl, rfl⟩)
    by_cases e3 : x = sTail
    · subst e3; rw [do_tail] at h; cases h; exact .inr (.inr (.inl ⟨rfl, rfl⟩))
    cases f with
    | nil => simp [doOp, e1, e2, e3] at h
    | cons b g =>
      by_cases e4 : x = sSame
      · subst e4; rw [do_same] at h; cases h; exact .inr (.inr (.inr ⟨b, g, rfl, .inl ⟨rfl, rfl⟩⟩))
      by_cases e5 : x = sJoin
      · subst e5; rw [do_join] at h; cases h; exact .inr (.inr (.inr ⟨b, g, rfl, .inr ⟨rfl, rfl⟩⟩))
      simp [doOp, e1, e2, e3, e4, e5] at h
section
variable {P : Program} {w : World} {K : PySem.W.Frag} {mg : Str → Option Value} {base : Heap} {cS cM : Addr}
theorem ok_isDone {f : Addr} {fd : FuncData} (B : Bl mg) (TM : TxtM K mg cM) (D : MDf K cM "is_done" "Machine.is_done" sIsDone ["self"] f fd) : FnOk P w K mg base CX0 1 f fd ["self"] (spIsDone P w K cS cM) := by
  refine D.F.ok sc_sIsDone (fun vs H Q XE h => ?_) (fun cdv AA outer st H vs Q XE hr h => ?_)
  · obtain ⟨A, vals, p, a, rfl, _⟩ := h
    rfl
  · obtain ⟨A, vals, p, a, rfl, hm, k⟩ := h
    have nd := sc_sIsDone.nd
    refine ⟨_,
      (pss_one (ps_ret (pe_cmpR op_eq (pe_callB call_len_seq (by rfl) B.len PySem.boot_len (pa_cons (pe_fld (pv 0) rfl) pa_nil)) pe_int (nomark _))))
      , ?_⟩
    obtain ⟨dx, y, ho, hy⟩ := hm.obj
    obtain ⟨tvs, h1, h2⟩ := hm.todo
    have hl := Paired.length h2
    refine ⟨_, rfl, A.m, cM, dx, _, _, rfl, ho, TM.cl, TM.nTodo, rfl, A.tl, _, rfl, .inl (SqL.of h1), rfl, ?_⟩
    have : decide (V.int ((tvs.reverse.length : Nat) : Int) = V.int 0) = decide (a.todo = []) := by
      rw [List.length_reverse, ← hl]
      cases a.todo with
      | nil => rfl
      | cons t ts => rw [decide_eq_false (show ¬ V.int (((t :: ts).length : Nat) : Int) = V.int 0 from fun q => by have := V.int.inj q; rw [List.length_cons] at this; omega), decide_eq_false (show ¬ t :: ts = [] from fun q => by cases q)]
    rw [this]
    exact k
theorem ok_isGreat {f : Addr} {fd : FuncData} (B : Bl mg) (TS : TxtS K mg cS) (TM : TxtM K mg cM) (D : MDf K cM "is_great" "Machine.is_great" sIsGreat ["self"] f fd) : FnOk P w K mg base CX0 1 f fd ["self"] (spIsGreat P w K cS cM) := by
  refine D.F.ok sc_sIsGreat (fun vs H Q XE h => ?_) (fun cdv AA outer st H vs Q XE hr h => ?_)
  · obtain ⟨A, vals, p, a, t, rfl, _⟩ := h
    rfl
  · obtain ⟨A, vals, p, a, t, rfl, hm, hf, h1, h2, k⟩ := h
    have nd := sc_sIsGreat.nd
    obtain ⟨tP, eP⟩ := TS.parts
    obtain ⟨tD, eD⟩ := TS.depth
    refine ⟨_,
      (pss_cons (ps_set (i := 1) nd rfl (.inl rfl) (pe_ix ix_list (pe_fld (pv 0) rfl) pe_int (fun _ _ => rfl)))
      (pss_one (ps_ret (pe_or (pe_cmpR op_gt (pe_ix ix_list (pe_fld (pe_fld (pv 0) rfl) rfl) (pv 1) (fun _ _ => rfl)) (pe_glob (v := .int 200000) (by rfl) eP ⟨_, rfl⟩) (nomark _)) (pe_one (pe_cmpR op_gt (pe_ix ix_list (pe_fld (pe_fld (pv 0) rfl) rfl) (pv 1) (fun _ _ => rfl)) (pe_glob (v := .int 200) (by rfl) eD ⟨_, rfl⟩) (nomark _)))))))
      , ?_⟩
    obtain ⟨dx, y, ho, hy⟩ := hm.obj
    obtain ⟨ns, h3, h4⟩ := hm.found
    rw [hf] at h4
    obtain ⟨n, ms, rfl, h5, h6⟩ := h4.cons_eq
    have := h6.nil_eq
    subst this
    obtain ⟨dxs, hs⟩ := hm.st.obj
    have gz : atI (vals.map fun t => V.int ((min t.size 200001 : Nat) : Int)) ((n : Nat) : Int) = some (.int ((min t.size 200001 : Nat) : Int)) := atI_nat (by rw [List.getElem?_map, h5]; rfl)
    have gd : atI (vals.map fun t => V.int ((min t.depth 201 : Nat) : Int)) ((n : Nat) : Int) = some (.int ((min t.depth 201 : Nat) : Int)) := atI_nat (by rw [List.getElem?_map, h5]; rfl)
    refine ⟨_, rfl, A.m, cM, dx, _, _, rfl, ho, TM.cl, TM.nFound, rfl, A.fl, _, _, _, rfl, rfl, SqL.of h3, at0, ?_⟩
    refine ⟨_, rfl, A.m, cM, dx, _, _, rfl, ho, TM.cl, TM.nStore, rfl, A.s, cS, dxs, _, _, rfl, hs, TS.cl, TS.nS, rfl, _, rfl, A.sz, _, _, _, rfl, rfl, SqL.of hm.st.szs, gz, _, _, rfl, rfl, _, rfl, ?_⟩
    rw [decide_eq_false (show ¬ ((200000 : Int) < ((min t.size 200001 : Nat) : Int)) by omega)]
    refine iteF ⟨_, rfl, A.m, cM, dx, _, _, rfl, ho, TM.cl, TM.nStore, rfl, A.s, cS, dxs, _, _, rfl, hs, TS.cl, TS.nD, rfl, _, rfl, A.dp, _, _, _, rfl, rfl, SqL.of hm.st.dps, gd, _, _, rfl, rfl, ?_⟩
    show Q (.bl (decide ((200 : Int) < ((min t.depth 201 : Nat) : Int)))) H
    rw [decide_eq_false (show ¬ ((200 : Int) < ((min t.depth 201 : Nat) : Int)) by omega)]
    exact k
theorem ok_result {f fV : Addr} {fd fdV : FuncData} (B : Bl mg) (TS : TxtS K mg cS) (TM : TxtM K mg cM) (D : MDf K cM "result" "Machine.result" sResult ["self"] f fd) (DV : MDf K cS "value_of" "Store.value_of" sValueOf ["self", "number"] fV fdV)
    (GV : FnOk P w K mg base CX0 2 fV fdV ["self", "number"] (spValueOf P w K cS)) : FnOk P w K mg base CX0 3 f fd ["self"] (spResult P w K cS cM) := by
  refine D.F.ok sc_sResult (fun vs H Q XE h => ?_) (fun cdv AA outer st H vs Q XE hr h => ?_)
  · obtain ⟨A, vals, p, a, t, rfl, _⟩ := h
    rfl
  · obtain ⟨A, vals, p, a, t, rfl, hm, hf, h1, h2, k⟩ := h
    have nd := sc_sResult.nd
    refine ⟨_,
      (pss_one (ps_ret (pe_meth (pe_fld (pv 0) rfl) TS.cl DV.m GV hr DV.b .nil pass0 (pa_cons (pe_ix ix_list (pe_fld (pv 0) rfl) pe_int (fun _ _ => rfl)) pa_nil))))
      , ?_⟩
    obtain ⟨dx, y, ho, hy⟩ := hm.obj
    obtain ⟨ns, h3, h4⟩ := hm.found
    rw [hf] at h4
    obtain ⟨n, ms, rfl, h5, h6⟩ := h4.cons_eq
    have := h6.nil_eq
    subst this
    obtain ⟨dxs, hs⟩ := hm.st.obj
    exact ⟨_, rfl, A.m, cM, dx, _, _, rfl, ho, TM.cl, TM.nStore, rfl, A.s, dxs, _, rfl, hs, rfl, _, rfl, A.m, cM, dx, _, _, rfl, ho, TM.cl, TM.nFound, rfl, A.fl, _, _, _, rfl, rfl, SqL.of h3, at0, A.s, A.e, A.nm, A.sz, A.dp, vals, n, t, rfl, hm.st, h5, h1, h2, k⟩
theorem ok_do {f f1 f2 f3 f4 : Addr} {fd fd1 fd2 fd3 fd4 : FuncData} (B : Bl mg) (TS : TxtS K mg cS) (TM : TxtM K mg cM) (D : MDf K cM "do" "Machine.do" sDo ["self", "word"] f fd)
    (D1 : MDf K cS "first" "Store.first" sFirst ["self", "number"] f1 fd1) (G1 : FnOk P w K mg base CX0 2 f1 fd1 ["self", "number"] (spFirst P w K cS))
    (D2 : MDf K cS "rest" "Store.rest" sRest ["self", "number"] f2 fd2) (G2 : FnOk P w K mg base CX0 2 f2 fd2 ["self", "number"] (spRest P w K cS))
    (D3 : MDf K cS "is_word" "Store.is_word" sSIsWord ["self", "number"] f3 fd3) (G3 : FnOk P w K mg base CX0 2 f3 fd3 ["self", "number"] (spSIsWord P w K cS))
    (D4 : MDf K cS "pair_up" "Store.pair_up" sPairUp ["self", "item", "items"] f4 fd4) (G4 : FnOk P w K mg base CX0 2 f4 fd4 ["self", "item", "items"] (spPairUp P w K cS)) :
    FnOk P w K mg base CX0 3 f fd ["self", "word"] (spDo P w K cS cM) := by
  refine D.F.ok sc_sDo (fun vs H Q XE h => ?_) (fun cdv AA outer st H vs Q XE hr h => ?_)
  · obtain ⟨A, vals, p, a, x, f', rfl, _⟩ := h
    rfl
  · obtain ⟨A, vals, p, a, x, f', rfl, hm, hop, hlen, hfl, k⟩ := h
    have nd := sc_sDo.nd
    obtain ⟨tZ, eZ⟩ := TS.empty
    refine ⟨_,
      (pss_cons (ps_set (i := 2) nd rfl (.inl rfl) (pe_bm0 PySem.F.plainAttrs_list PySem.F.slot_list_pop PySem.F.type_list_pop mt_pop (pe_fld (pv 0) rfl)))
      (pss_one (ps_if (pt_cmpR op_eq (pv 1) pe_str (nomark _))
      (pss_one (ps_expr (pe_bm PySem.F.plainAttrs_list PySem.F.slot_list_append PySem.F.type_list_append mt_append (pe_fld (pv 0) rfl) (pa_cons (pe_meth (pe_fld (pv 0) rfl) TS.cl D1.m G1 hr D1.b .nil pass0 (pa_cons (pv 2) pa_nil)) pa_nil))))
      (pss_one (ps_if (pt_cmpR op_eq (pv 1) pe_str (nomark _))
      (pss_one (ps_expr (pe_bm PySem.F.plainAttrs_list PySem.F.slot_list_append PySem.F.type_list_append mt_append (pe_fld (pv 0) rfl) (pa_cons (pe_meth (pe_fld (pv 0) rfl) TS.cl D2.m G2 hr D2.b .nil pass0 (pa_cons (pv 2) pa_nil)) pa_nil))))
      (pss_one (ps_if (pt_cmpR op_eq (pv 1) pe_str (nomark _))
      (pss_one (ps_expr (pe_bm PySem.F.plainAttrs_list PySem.F.slot_list_append PySem.F.type_list_append mt_append (pe_fld (pv 0) rfl) (pa_cons (pe_ifExp (PW.pt (pw_and (pt_cmpR op_ne (pv 2) (pe_glob (v := .int 0) (by rfl) eZ ⟨_, rfl⟩) (nomark _)) (pw_and1 (pt_val (pe_meth (pe_fld (pv 0) rfl) TS.cl D3.m G3 hr D3.b .nil pass0 (pa_cons (pv 2) pa_nil)))))) (pe_fld (pv 0) rfl) (pe_glob (v := .int 0) (by rfl) eZ ⟨_, rfl⟩)) pa_nil))))
      (pss_cons (ps_set (i := 3) nd rfl (.inl rfl) (pe_bm0 PySem.F.plainAttrs_list PySem.F.slot_list_pop PySem.F.type_list_pop mt_pop (pe_fld (pv 0) rfl)))
      (pss_one (ps_if (pt_cmpR op_eq (pv 1) pe_str (nomark _))
      (pss_one (ps_expr (pe_bm PySem.F.plainAttrs_list PySem.F.slot_list_append PySem.F.type_list_append mt_append (pe_fld (pv 0) rfl) (pa_cons (pe_ifExp (pt_cmpR op_eq (pv 3) (pv 2) (nomark _)) (pe_fld (pv 0) rfl) (pe_glob (v := .int 0) (by rfl) eZ ⟨_, rfl⟩)) pa_nil))))
      (pss_one (ps_expr (pe_bm PySem.F.plainAttrs_list PySem.F.slot_list_append PySem.F.type_list_append mt_append (pe_fld (pv 0) rfl) (pa_cons (pe_meth (pe_fld (pv 0) rfl) TS.cl D4.m G4 hr D4.b .nil pass0 (pa_cons (pv 3) (pa_cons (pv 2) pa_nil))) pa_nil))))))))))))))
      , ?_⟩
    have hs : sizeLine = 16777216 := rfl
    obtain ⟨todo, found, steps⟩ := a
    obtain ⟨t, f, rfl, hcs⟩ := doOp_cases hop
    obtain ⟨dx, y, ho, hy⟩ := hm.obj
    obtain ⟨ns, h3, h4⟩ := hm.found
    obtain ⟨n, ns, rfl, hn, h4⟩ := h4.cons_eq
    have hnl := h4.length
    simp only [List.length_cons] at hfl
    have erev : (n :: ns).reverse.map vint = (vint n :: ns.map vint).reverse := by rw [List.map_reverse]; rfl
    rw [erev] at h3
    refine ⟨_, rfl, A.m, cM, dx, _, _, rfl, ho, TM.cl, TM.nFound, rfl, .inl ⟨rfl, _, SqL.of h3⟩, A.fl, _, _, rfl, rfl, h3, rev_last _ _, ?_⟩
    rw [dropLast_rev, ← List.map_reverse]
    have m1 := hm.popF (ns := ns) (f := f) (n := n) h4
    have kp1 : Kp A.L H (upd H A.fl (.lst (ns.reverse.map vint))) := Kp.refl.upd (.inl (by simp))
    have h3' : upd H A.fl (.lst (ns.reverse.map vint)) A.fl = some (.lst (ns.reverse.map vint)) := upd_same
    clear ho hy hm h3
    generalize upd H A.fl (.lst (ns.reverse.map vint)) = H1 at *
    obtain ⟨dx, y, ho, hy⟩ := m1.obj
    obtain ⟨dxs, hos⟩ := m1.st.obj
    -- found.append
    have app : ∀ (u : T) (j : Nat), vals[j]? = some u → f' = u :: f → Q .non (upd H1 A.fl (.lst (ns.reverse.map vint ++ [vint j]))) := by
      rintro u j hj rfl
      refine k _ [] (kp1.upd (.inl (by simp))) ?_ (Nat.zero_le _)
      rw [List.append_nil]
      exact m1.pushF h3' h4 hj
    have hfz : (ns.reverse.map vint).length < sizeLine := by rw [List.length_map, List.length_reverse]; omega
    rcases hcs with ⟨rfl, rfl⟩ | ⟨rfl, rfl⟩ | ⟨rfl, rfl⟩ | ⟨b, g, rfl, hcs⟩
    · refine ⟨_, rfl, rfl, ?_⟩
      rw [decide_eq_false (show ¬ V.str sWord = V.str "head" from fun q => ww (V.str.inj q).symm)]
      refine ⟨_, rfl, iteF ⟨_, rfl, rfl, ?_⟩⟩
      rw [decide_eq_false (show ¬ V.str sWord = V.str "tail" from fun q => tw (V.str.inj q).symm)]
      refine ⟨_, rfl, iteF ⟨_, rfl, rfl, ?_⟩⟩
      rw [decide_eq_true (show V.str sWord = V.str "word" from rfl)]
      refine ⟨_, rfl, iteT ?_⟩
      refine ⟨_, rfl, A.m, cM, dx, _, _, rfl, ho, TM.cl, TM.nFound, rfl, .inl ⟨rfl, _, SqL.of h3'⟩, _, rfl, rfl, ?_⟩
      by_cases hz : n = 0
      · subst hz
        rw [decide_eq_true (show V.int ((0 : Nat) : Int) = V.int 0 from rfl)]
        have := m1.st.zero
        rw [hn] at this
        cases this
        exact ⟨_, rfl, iteF ⟨A.fl, _, _, rfl, rfl, h3', hfz, app nil 0 m1.st.zero rfl⟩⟩
      · rw [decide_eq_false (show ¬ V.int ((n : Nat) : Int) = V.int 0 from fun q => by have := V.int.inj q; omega)]
        refine ⟨_, rfl, iteT ⟨_, rfl, A.m, cM, dx, _, _, rfl, ho, TM.cl, TM.nStore, rfl, A.s, dxs, _, rfl, hos, rfl, _, rfl, A.s, A.e, A.nm, A.sz, A.dp, vals, n, t, rfl, m1.st, hn, ?_⟩⟩
        cases t with
        | w x => exact ⟨_, rfl, iteT ⟨_, rfl, A.m, cM, dx, _, _, rfl, ho, TM.cl, TM.nYes, rfl, A.fl, _, _, rfl, rfl, h3', hfz, app yes y hy rfl⟩⟩
        | l ts => exact ⟨_, rfl, iteF ⟨A.fl, _, _, rfl, rfl, h3', hfz, app nil 0 m1.st.zero rfl⟩⟩
    · refine ⟨_, rfl, rfl, ?_⟩
      rw [decide_eq_true (show V.str sHead = V.str "head" from rfl)]
      refine ⟨_, rfl, iteT ?_⟩
      exact ⟨_, rfl, A.m, cM, dx, _, _, rfl, ho, TM.cl, TM.nFound, rfl, .inl ⟨rfl, _, SqL.of h3'⟩, _, rfl, A.m, cM, dx, _, _, rfl, ho, TM.cl, TM.nStore, rfl, A.s, dxs, _, rfl, hos, rfl, _, rfl, A.s, A.e, A.nm, A.sz, A.dp, vals, n, t, rfl, m1.st, hn, fun j hj => ⟨A.fl, _, _, rfl, rfl, h3', hfz, app _ j hj rfl⟩⟩
    · refine ⟨_, rfl, rfl, ?_⟩
      rw [decide_eq_false (show ¬ V.str sTail = V.str "head" from fun q => th (V.str.inj q))]
      refine ⟨_, rfl, iteF ⟨_, rfl, rfl, ?_⟩⟩
      rw [decide_eq_true (show V.str sTail = V.str "tail" from rfl)]
      refine ⟨_, rfl, iteT ?_⟩
      exact ⟨_, rfl, A.m, cM, dx, _, _, rfl, ho, TM.cl, TM.nFound, rfl, .inl ⟨rfl, _, SqL.of h3'⟩, _, rfl, A.m, cM, dx, _, _, rfl, ho, TM.cl, TM.nStore, rfl, A.s, dxs, _, rfl, hos, rfl, _, rfl, A.s, A.e, A.nm, A.sz, A.dp, vals, n, t, rfl, m1.st, hn, fun j hj => ⟨A.fl, _, _, rfl, rfl, h3', hfz, app _ j hj rfl⟩⟩
    · obtain ⟨n2, ns, rfl, hn2, h4⟩ := h4.cons_eq
      have hnl := h4.length
      simp only [List.length_cons] at hfl
      have erev : (n2 :: ns).reverse.map vint = (vint n2 :: ns.map vint).reverse := by rw [List.map_reverse]; rfl
      rw [erev] at h3'
      have m2 := m1.popF (ns := ns) (f := g) (n := n) h4
      have kp2 : Kp A.L H (upd H1 A.fl (.lst (ns.reverse.map vint))) := kp1.upd (.inl (by simp))
      have h3'' : upd H1 A.fl (.lst (ns.reverse.map vint)) A.fl = some (.lst (ns.reverse.map vint)) := upd_same
      have hfz2 : (ns.reverse.map vint).length < sizeLine := by rw [List.length_map, List.length_reverse]; omega
      clear app
      have hx1 : ¬ x = sHead ∧ ¬ x = sTail ∧ ¬ x = sWord := by
        rcases hcs with ⟨rfl, _⟩ | ⟨rfl, _⟩
        · exact ⟨mh, mt, mw⟩
        · exact ⟨jh, jt, jw⟩
      refine ⟨_, rfl, rfl, ?_⟩
      rw [decide_eq_false (show ¬ V.str x = V.str "head" from fun q => hx1.1 (V.str.inj q))]
      refine ⟨_, rfl, iteF ⟨_, rfl, rfl, ?_⟩⟩
      rw [decide_eq_false (show ¬ V.str x = V.str "tail" from fun q => hx1.2.1 (V.str.inj q))]
      refine ⟨_, rfl, iteF ⟨_, rfl, rfl, ?_⟩⟩
      rw [decide_eq_false (show ¬ V.str x = V.str "word" from fun q => hx1.2.2 (V.str.inj q))]
      refine ⟨_, rfl, iteF ?_⟩
      refine ⟨_, rfl, A.m, cM, dx, _, _, rfl, ho, TM.cl, TM.nFound, rfl, .inl ⟨rfl, _, SqL.of h3'⟩, A.fl, _, _, rfl, rfl, h3', rev_last _ _, ?_⟩
      rw [dropLast_rev, ← List.map_reverse]
      clear ho hos hy m1 kp1 h3'
      generalize upd H1 A.fl (.lst (ns.reverse.map vint)) = H2 at *
      obtain ⟨dx, y, ho, hy⟩ := m2.obj
      obtain ⟨dxs, hos⟩ := m2.st.obj
      have app : ∀ (u : T) (j : Nat), vals[j]? = some u → f' = u :: g → Q .non (upd H2 A.fl (.lst (ns.reverse.map vint ++ [vint j]))) := by
        rintro u j hj rfl
        refine k _ [] (kp2.upd (.inl (by simp))) ?_ (Nat.zero_le _)
        rw [List.append_nil]
        exact m2.pushF h3'' h4 hj
      rcases hcs with ⟨rfl, rfl⟩ | ⟨rfl, rfl⟩
      · refine ⟨_, rfl, rfl, ?_⟩
        rw [decide_eq_true (show V.str sSame = V.str "same" from rfl)]
        refine ⟨_, rfl, iteT ?_⟩
        refine ⟨_, rfl, A.m, cM, dx, _, _, rfl, ho, TM.cl, TM.nFound, rfl, .inl ⟨rfl, _, SqL.of h3''⟩, _, rfl, _, rfl, rfl, ?_⟩
        by_cases hz : b = t
        · subst hz
          have := nodup_get m2.st.nd hn hn2
          subst this
          rw [decide_eq_true (show V.int ((n : Nat) : Int) = V.int ((n : Nat) : Int) from rfl)]
          refine ⟨_, rfl, iteT ⟨_, rfl, A.m, cM, dx, _, _, rfl, ho, TM.cl, TM.nYes, rfl, A.fl, _, _, rfl, rfl, h3'', hfz2, app yes y hy ?_⟩⟩
          rw [decide_eq_true rfl]; rfl
        · rw [decide_eq_false (show ¬ V.int ((n2 : Nat) : Int) = V.int ((n : Nat) : Int) from fun q => hz (by
            have := V.int.inj q
            have : n2 = n := by omega
            rw [this, hn] at hn2
            cases hn2
            rfl))]
          refine ⟨_, rfl, iteF ⟨A.fl, _, _, rfl, rfl, h3'', hfz2, app nil 0 m2.st.zero ?_⟩⟩
          rw [decide_eq_false hz]; rfl
      · refine ⟨_, rfl, rfl, ?_⟩
        rw [decide_eq_false (show ¬ V.str sJoin = V.str "same" from fun q => js (V.str.inj q))]
        refine ⟨_, rfl, iteF ?_⟩
        refine ⟨_, rfl, A.m, cM, dx, _, _, rfl, ho, TM.cl, TM.nFound, rfl, .inl ⟨rfl, _, SqL.of h3''⟩, _, rfl, A.m, cM, dx, _, _, rfl, ho, TM.cl, TM.nStore, rfl, A.s, dxs, _, rfl, hos, rfl, _, rfl, _, rfl, A.s, A.e, A.nm, A.sz, A.dp, vals, n2, n, b, t, rfl, m2.st, hn2, hn, hlen, fun H3 more j kp3 st3 hl3 hj => ?_⟩
        have m3 := m2.store kp3 st3
        have i3 := kp3.keep A.fl _ m2.nf h3''
        refine ⟨A.fl, _, _, rfl, rfl, i3, hfz2, ?_⟩
        exact k _ more ((kp2.trans (kp3.mono fun x hx => ads_L hx)).upd (.inl (by simp))) (m3.pushF i3 (h4.mono _) hj) hl3
end
end K46
/-! Machine: begin. -/
namespace K46
open PySem PySem.Spec PyProof.Rows L2

def spBegin (P : Program) (w : World) (K : PySem.W.Frag) (cS cM : Addr) : Sp := fun vs H Q _ => ∃ (A : MAd) (vals : List T) (p : Prog) (a : M) (i : Nat) (nb : Addr) (g : Str) (fn : Fn) (ns : List Nat) (ts : List T), vs = [.ref A.m, vint i, .ref nb] ∧ MAt P w K cS cM H A vals p a ∧
  vals[i]? = some (.w g) ∧ look p g = some fn ∧ SqT K H nb (ns.map vint) ∧ Nums vals ns ts ∧ ts.length = fn.ps.length ∧ a.todo.length ≤ 10000000 ∧ MNext P w K cS cM H A vals p 0 ⟨.ev fn.body (fn.ps.zip ts) :: a.todo, a.found, a.steps⟩ Q
abbrev sBegin : Stmt := inClass (top 34) 1
theorem sc_sBegin : FnScope ["self", "name", "numbers", "parameters", "body", "call", "names", "parameter", "number"] ["self", "name", "numbers"] (defScope sBegin) := ⟨rfl, rfl, rfl, by decide +kernel, rfl, by decide +kernel, by decide +kernel⟩
theorem zip_lookup : ∀ {ps : List Str} {ts : List T} {x : Str} {t : T}, (ps.zip ts).lookup x = some t → ∃ j : Nat, ps[j]? = some x ∧ ts[j]? = some t
  | [], _, _, _, h => nomatch h
  | _ :: _, [], _, _, h => nomatch h
  | q :: ps, u :: ts, x, t, h => by
    rw [List.zip_cons_cons, List.lookup_cons] at h
    split at h
    · next e =>
      have e := eq_of_beq e
      subst e
      cases h
      exact ⟨0, rfl, rfl⟩
    · obtain ⟨j, h1, h2⟩ := zip_lookup h
      exact ⟨j + 1, h1, h2⟩
section
variable {P : Program} {w : World} {K : PySem.W.Frag} {mg : Str → Option Value} {base : Heap} {cS cM : Addr}
theorem ok_begin {f : Addr} {fd : FuncData} (B : Bl mg) (TS : TxtS K mg cS) (TM : TxtM K mg cM) (D : MDf K cM "begin" "Machine.begin" sBegin ["self", "name", "numbers"] f fd) : FnOk P w K mg base CX0 1 f fd ["self", "name", "numbers"] (spBegin P w K cS cM) := by
  refine D.F.ok sc_sBegin (fun vs H Q XE h => ?_) (fun cdv AA outer st H vs Q XE hr h => ?_)
  · obtain ⟨A, vals, p, a, i, nb, g, fn, ns, ts, rfl, _⟩ := h
    rfl
  · obtain ⟨A, vals, p, a, i, nb, g, fn, ns, ts, rfl, hm, hi, hg, hT, hns, hl, htl, k⟩ := h
    have nd := sc_sBegin.nd
    have hu := hu_of hr
    refine ⟨_,
      (pss_cons (ps_asg (pe_dget hu (pe_fld (pv 0) rfl) (pv 1) (fun _ _ => rfl)) (pg_tup (by rfl) (pgs_cons (pg_name (i := 3) nd rfl (.inl rfl)) (pgs_cons (pg_name (i := 4) nd rfl (.inl rfl)) pgs_nil))))
      (pss_cons (ps_if (pt_val (pe_fld (pv 0) rfl))
      pss_never
      pss_nil)
      (pss_cons (ps_set (i := 6) nd rfl (.inl rfl) pe_dnewK)
      (pss_cons (ps_for PassesOwn.never rfl (pi_zipLT (by rfl) B.zip (pa_cons (pv 3) (pa_cons (pv 2) pa_nil))) (pg_tup (by rfl) (pgs_cons (pg_name (i := 7) nd rfl (.inl rfl)) (pgs_cons (pg_name (i := 8) nd rfl (.inl rfl)) pgs_nil)))
      (pss_one (ps_dput hu (pv 6) (pv 7) (pv 8) rfl)))
      (pss_one (ps_expr (pe_bm PySem.F.plainAttrs_list PySem.F.slot_list_append PySem.F.type_list_append mt_append (pe_fld (pv 0) rfl) (pa_cons (pe_tup (pa_cons pe_str (pa_cons (pv 4) (pa_cons (pv 6) pa_nil)))) pa_nil))))))))
      , ?_⟩
    have hs : sizeLine = 16777216 := rfl
    obtain ⟨dx, y, ho, hy⟩ := hm.obj
    obtain ⟨fs, hfs, hfn⟩ := hm.fns
    obtain ⟨i', hi', af, pl, b, pns, h1, h2, h3, h4, h5, h6, h7, h8, h9⟩ := hfn g fn hg
    have := nodup_get hm.st.nd hi hi'
    subst this
    have hdg : DGet H A.fd (.int (i : Int)) (some (.ref af)) := by rw [← h1]; exact DGet.k (k := .inl (i : Int)) hfs
    refine ⟨_, rfl, A.m, cM, dx, _, _, rfl, ho, TM.cl, TM.nFuns, rfl, _, rfl, A.fd, _, rfl, hdg, ?_⟩
    refine ⟨af, _, rfl, h2, rfl, _, _, rfl, _, _, rfl, rfl, ?_⟩
    refine ⟨_, rfl, A.m, cM, dx, _, _, rfl, ho, TM.cl, TM.nKeep, rfl, _, rfl, iteF fun d hd => ?_⟩
    have hlen : ns.length = pns.length := by rw [hns.length, h5.length, List.length_map, hl]
    have hpl : pns.length ≤ 12 := by rw [h5.length, List.length_map]; exact h9
    have psn : ∀ j j' q, pns[j]? = some q → pns[j']? = some q → j = j' := fun j j' q a1 a2 => by
      obtain ⟨t1, b1, c1⟩ := h5.get' a1
      obtain ⟨t2, b2, c2⟩ := h5.get' a2
      rw [c1] at c2
      cases c2
      rw [List.getElem?_map, Option.map_eq_some_iff] at b1 b2
      obtain ⟨x1, e1, rfl⟩ := b1
      obtain ⟨x2, e2, e3⟩ := b2
      cases e3
      exact nodup_get h8 e1 e2
    refine ⟨_, rfl, _, rfl, pl, nb, _, _, rfl, SqL.of ((same_upd hd) _ _ h3), hT.same (same_upd hd), ?_⟩
    refine for_F (fun j σ' H' => ∃ (kvs : List (Key × V)) (x7 x8 : Option V), σ' = [some (.ref A.m), some (vint i), some (.ref nb), some (.ref pl), some (vint b), none, some (.ref d), x7, x8] ∧ Same H H' ∧ H' d = some (.dK kvs) ∧ kvs.length ≤ j ∧
      ∀ j' q n, j' < j → pns[j']? = some q → ns[j']? = some n → valV kvs (.inl (q : Int)) = some (vint n)) ?_ ?_ ?_ ?_
    · exact ⟨[], _, _, rfl, same_upd hd, upd_same, Nat.zero_le _, fun _ _ _ h => absurd h (Nat.not_lt_zero _)⟩
    · rintro j σ' H' _ ⟨kvs, x7, x8, rfl, S, _⟩
      exact ⟨SqL.of (S _ _ h3), hT.same S⟩
    · rintro j vs' T0 σ' H' hj ⟨x, z, hx, hz, rfl⟩ ⟨kvs, x7, x8, rfl, S, c1, c2, c3⟩ hT0
      rw [List.getElem?_map, Option.map_eq_some_iff] at hx hz
      obtain ⟨q, hq, rfl⟩ := hx
      obtain ⟨n, hn, rfl⟩ := hz
      have hjl := (List.getElem?_eq_some_iff.mp hq).1
      refine ⟨T0, _, rfl, SqT.of upd_same, rfl, _, _, rfl, _, _, rfl, rfl, ?_⟩
      have nd0 : d ≠ T0 := ne_of_none c1 hT0
      refine ⟨_, rfl, _, rfl, _, rfl, d, _, rfl, DPut.k (k := .inl (q : Int)) (by rw [upd_ne nd0]; exact c1) (by omega), ?_⟩
      refine ⟨_, _, _, rfl, (S.upd (S.free hT0)).upd hd, upd_same, Nat.le_trans (length_putK _ _ _) (by omega), fun j' q' n' hj' hq' hn' => ?_⟩
      rw [valV_put]
      by_cases e : j' = j
      · subst e
        rw [hq] at hq'
        rw [hn] at hn'
        cases hq'
        cases hn'
        rw [if_pos rfl]
      · rw [if_neg, c3 j' q' n' (by omega) hq' hn']
        intro z
        have z := Sum.inl.inj z
        have : q' = q := by omega
        subst this
        exact e (psn _ _ _ hq' hq)
    · rintro σ' H' ⟨kvs, x7, x8, rfl, S, c1, c2, c3⟩
      rw [List.length_map, List.length_map, hlen, Nat.min_self] at c3
      have m2 := hm.same S
      obtain ⟨dx, y, ho, hy⟩ := m2.obj
      obtain ⟨tvs, h10, h11⟩ := m2.todo
      have htv := Paired.length h11
      have he : EnvAt H' vals d (fn.ps.zip ts) := ⟨kvs, c1, fun x t hx => by
        obtain ⟨j, q1, q2⟩ := zip_lookup hx
        obtain ⟨pn, r1, r2⟩ := h5.get (i := j) (t := .w x) (by rw [List.getElem?_map, q1]; rfl)
        obtain ⟨n, r3, r4⟩ := hns.get q2
        exact ⟨pn, n, r2, c3 j pn n (List.getElem?_eq_some_iff.mp r1).1 r1 r3, r4⟩⟩
      refine ⟨_, rfl, A.m, cM, dx, _, _, rfl, ho, TM.cl, TM.nTodo, rfl, .inl ⟨rfl, _, SqL.of h10⟩, _, rfl, _, rfl, (by show 3 ≤ sizeLine; decide), fun c hc => ?_⟩
      have ntc : A.tl ≠ c := ne_of_none h10 hc
      refine ⟨A.tl, _, _, rfl, rfl, (by rw [upd_ne ntc]; exact h10), by rw [List.length_reverse]; omega, ?_⟩
      have Sc := same_upd (o := .tup [.str "eval", vint b, .ref d]) hc
      have m3 := m2.same Sc
      have h12 := tasks_stay (Stay.of_same Sc) h11
      have ht : TaskAt K (upd H' c (.tup [.str "eval", vint b, .ref d])) vals (.ev fn.body (fn.ps.zip ts)) (.ref c) := ⟨c, d, b, rfl, SqT.of upd_same, h6, (by
        have := he.mono (Stay.of_same Sc) []
        rwa [List.append_nil] at this), h7⟩
      have m4 := m3.setT (.cons ht h12)
      rw [List.reverse_cons] at m4
      have m5 := m4
      refine k _ [] ((Kp.of_same (S.trans Sc)).upd (.inl (by simp))) ?_ (Nat.zero_le _)
      rw [List.append_nil]
      exact m5
end
end K46
/-! Machine: evaluate. -/
namespace K46
open PySem PySem.Spec PyProof.Rows L2

def plainVs : List V := [.str sSame, .str sWord, .str sHead, .str sTail, .str sJoin]
/-- PLAIN -/
structure TxtP (K : PySem.W.Frag) (mg : Str → Option Value) (aP : Addr) : Prop where
  g : mg "PLAIN" = some (.ref aP)
  at_ : ∀ H, SqT K H aP plainVs
theorem at3 {x y z u : V} {r : List V} : atI (x :: y :: z :: u :: r) 3 = some u := atI_nat (j := 3) rfl
theorem inV_plain (x : Str) : inV (.str x) plainVs = plain x := by
  have := inV_strs x [sSame, sWord, sHead, sTail, sJoin]
  have e : ([sSame, sWord, sHead, sTail, sJoin] : List Str).map V.str = plainVs := rfl
  rw [e] at this
  rw [this]
  unfold plain
  rw [Bool.eq_iff_iff]
  simp only [decide_eq_true_eq, List.mem_cons, List.not_mem_nil, or_false, Bool.or_eq_true]
  constructor
  · rintro (h | h | h | h | h) <;> simp [h]
  · rintro ((((h | h) | h) | h) | h) <;> simp [h]
theorem MAt.there {P : Program} {w : World} {K : PySem.W.Frag} {cS cM : Addr} {H : Hp} {A : MAd} {vals : List T} {p : Prog} {a : M} (h : MAt P w K cS cM H A vals p a) : ∀ b ∈ A.L, H b ≠ none := by
  intro b hb
  obtain ⟨dx, y, h5, _⟩ := h.obj
  obtain ⟨tvs, h6, _⟩ := h.todo
  obtain ⟨ns, h7, _⟩ := h.found
  simp only [MAd.L, List.mem_cons, List.not_mem_nil, or_false] at hb
  rcases hb with rfl | rfl | rfl | rfl | rfl | rfl | rfl
  · rw [h5]; exact fun q => nomatch q
  · rw [h7]; exact fun q => nomatch q
  · rw [h6]; exact fun q => nomatch q
  · exact h.st.there (by simp [adS])
  · exact h.st.there (by simp [adS])
  · exact h.st.there (by simp [adS])
  · exact h.st.there (by simp [adS])
theorem EnvAt.stay {H H' : Hp} {vals : List T} {d : Addr} {r : List (Str × T)} (h : EnvAt H vals d r) (y : Stay H H') : EnvAt H' vals d r := by
  have := h.mono y []
  rwa [List.append_nil] at this
theorem wide_arg {w : Str} {es : List E} {e : E} (h : e ∈ es) : e.t.wide ≤ (E.app w es).t.wide := by
  have : e.t ∈ tItems (E.app w es).t := by rw [E.t_app]; exact List.mem_cons_of_mem _ (List.mem_map.mpr ⟨e, h, rfl⟩)
  exact item_wide this
theorem MAt.pushT {P : Program} {w : World} {K : PySem.W.Frag} {cS cM : Addr} {H : Hp} {A : MAd} {vals : List T} {p : Prog} {a : M} (h : MAt P w K cS cM H A vals p a) {tvs : List V} (h1 : H A.tl = some (.lst tvs.reverse)) (h2 : Paired (TaskAt K H vals) a.todo tvs)
    {c : Addr} {xs : List V} (hc : H c = none) {t : Task} (ht : TaskAt K (upd H c (.tup xs)) vals t (.ref c)) :
    upd H c (.tup xs) A.tl = some (.lst tvs.reverse) ∧ MAt P w K cS cM (upd (upd H c (.tup xs)) A.tl (.lst (tvs.reverse ++ [.ref c]))) A vals p ⟨t :: a.todo, a.found, a.steps⟩ ∧ Kp A.L H (upd (upd H c (.tup xs)) A.tl (.lst (tvs.reverse ++ [.ref c]))) ∧
      Stay H (upd (upd H c (.tup xs)) A.tl (.lst (tvs.reverse ++ [.ref c]))) := by
  have ntc : A.tl ≠ c := ne_of_none h1 hc
  have Sc := same_upd (o := .tup xs) hc
  have m := (h.same Sc).setT (.cons ht (tasks_stay (Stay.of_same Sc) h2))
  rw [List.reverse_cons] at m
  have kp : Kp A.L H (upd (upd H c (.tup xs)) A.tl (.lst (tvs.reverse ++ [.ref c]))) := (Kp.of_same Sc).upd (.inl (by simp))
  exact ⟨by rw [upd_ne ntc]; exact h1, m, kp, h.stay kp⟩
def spEvaluate (P : Program) (w : World) (K : PySem.W.Frag) (cS cM : Addr) : Sp := fun vs H Q _ => ∃ (A : MAd) (vals : List T) (p : Prog) (todo : List Task) (f : List T) (n ne : Nat) (d : Addr) (e : E) (r : List (Str × T)) (b : M), vs = [.ref A.m, vint ne, .ref d] ∧
  MAt P w K cS cM H A vals p ⟨todo, f, n + 1⟩ ∧ vals[ne]? = some e.t ∧ EnvAt H vals d r ∧ e.t.wide ≤ 100 ∧ step p ⟨.ev e r :: todo, f, n⟩ = some b ∧ todo.length ≤ 10000000 ∧ f.length ≤ 10000000 ∧ MNext P w K cS cM H A vals p 0 b Q
abbrev sEvaluate : Stmt := inClass (top 34) 4
theorem sc_sEvaluate : FnScope ["self", "expression", "names", "items", "word", "parts", "part"] ["self", "expression", "names"] (defScope sEvaluate) := ⟨rfl, rfl, rfl, by decide +kernel, rfl, by decide +kernel, by decide +kernel⟩
section
variable {P : Program} {w : World} {K : PySem.W.Frag} {mg : Str → Option Value} {base : Heap} {cS cM aP : Addr}
theorem ok_evaluate {f fW fI : Addr} {fd fdW fdI : FuncData} (B : Bl mg) (TS : TxtS K mg cS) (TM : TxtM K mg cM) (TP : TxtP K mg aP) (D : MDf K cM "evaluate" "Machine.evaluate" sEvaluate ["self", "expression", "names"] f fd)
    (DW : MDf K cS "is_word" "Store.is_word" sSIsWord ["self", "number"] fW fdW) (GW : FnOk P w K mg base CX0 1 fW fdW ["self", "number"] (spSIsWord P w K cS)) (DI : MDf K cS "items_of" "Store.items_of" sItemsOf ["self", "number"] fI fdI) (GI : FnOk P w K mg base CX0 1 fI fdI ["self", "number"] (spItemsOf P w K cS)) :
    FnOk P w K mg base CX0 2 f fd ["self", "expression", "names"] (spEvaluate P w K cS cM) := by
  refine D.F.ok sc_sEvaluate (fun vs H Q XE h => ?_) (fun cdv AA outer st H vs Q XE hr h => ?_)
  · obtain ⟨A, vals, p, todo, f, n, ne, d, e, r, b, rfl, _⟩ := h
    rfl
  · obtain ⟨A, vals, p, todo, f, n, ne, d, e, r, b, rfl, hm, hne, hd, hwd, hstep, htl, hfl, k⟩ := h
    have nd := sc_sEvaluate.nd
    have hu := hu_of hr
    refine ⟨_,
      (pss_cons (ps_if (pt_val (pe_meth (pe_fld (pv 0) rfl) TS.cl DW.m GW hr DW.b .nil pass0 (pa_cons (pv 1) pa_nil)))
      (pss_cons (ps_expr (pe_bm PySem.F.plainAttrs_list PySem.F.slot_list_append PySem.F.type_list_append mt_append (pe_fld (pv 0) rfl) (pa_cons (pe_dget hu (pv 2) (pv 1) (fun _ _ => rfl)) pa_nil)))
      (pss_one ps_retN))
      pss_nil)
      (pss_cons (ps_set (i := 3) nd rfl (.inl rfl) (pe_meth (pe_fld (pv 0) rfl) TS.cl DI.m GI hr DI.b .nil pass0 (pa_cons (pv 1) pa_nil)))
      (pss_cons (ps_set (i := 4) nd rfl (.inl rfl) (pe_ix ix_list (pe_fld (pe_fld (pv 0) rfl) rfl) (pe_ix ix_list (pv 3) pe_int (fun _ _ => rfl)) (fun _ _ => rfl)))
      (pss_one (ps_if (pt_cmpR op_eq (pv 4) pe_str (nomark _))
      (pss_one (ps_expr (pe_bm PySem.F.plainAttrs_list PySem.F.slot_list_append PySem.F.type_list_append mt_append (pe_fld (pv 0) rfl) (pa_cons (pe_ix ix_list (pv 3) pe_int (fun _ _ => rfl)) pa_nil))))
      (pss_one (ps_if (pt_cmpR op_eq (pv 4) pe_str (nomark _))
      (pss_cons (ps_expr (pe_bm PySem.F.plainAttrs_list PySem.F.slot_list_append PySem.F.type_list_append mt_append (pe_fld (pv 0) rfl) (pa_cons (pe_tup (pa_cons pe_str (pa_cons (pe_ix ix_list (pv 3) pe_int (fun _ _ => rfl)) (pa_cons (pe_ix ix_list (pv 3) pe_int (fun _ _ => rfl)) (pa_cons (pv 2) pa_nil))))) pa_nil)))
      (pss_one (ps_expr (pe_bm PySem.F.plainAttrs_list PySem.F.slot_list_append PySem.F.type_list_append mt_append (pe_fld (pv 0) rfl) (pa_cons (pe_tup (pa_cons pe_str (pa_cons (pe_ix ix_list (pv 3) pe_int (fun _ _ => rfl)) (pa_cons (pv 2) pa_nil)))) pa_nil)))))
      (pss_cons (ps_set (i := 5) nd rfl (.inl rfl) (pe_slice sl_list (pv 3) (po_some pe_int) po_none))
      (pss_cons (ps_expr (pe_bm PySem.F.plainAttrs_list PySem.F.slot_list_append PySem.F.type_list_append mt_append (pe_fld (pv 0) rfl) (pa_cons (pe_ifExp (pt_cmpR op_in_seq (pv 4) (pe_glob (v := .ref aP) (by rfl) TP.g rfl) (by rfl)) (pe_tup (pa_cons pe_str (pa_cons (pv 4) pa_nil))) (pe_tup (pa_cons pe_str (pa_cons (pe_ix ix_list (pv 3) pe_int (fun _ _ => rfl)) (pa_cons (pe_callB call_len_seq (by rfl) B.len PySem.boot_len (pa_cons (pv 5) pa_nil)) pa_nil))))) pa_nil)))
      (pss_one (ps_for PassesOwn.never rfl (RT.pi_revA (by rfl) B.reversed (pv 5)) (pg_name (i := 6) nd rfl (.inl rfl))
      (pss_one (ps_expr (pe_bm PySem.F.plainAttrs_list PySem.F.slot_list_append PySem.F.type_list_append mt_append (pe_fld (pv 0) rfl) (pa_cons (pe_tup (pa_cons pe_str (pa_cons (pv 6) (pa_cons (pv 2) pa_nil)))) pa_nil)))))))))))))))
      , ?_⟩
    have hs : sizeLine = 16777216 := rfl
    obtain ⟨dx, y, ho, hy⟩ := hm.obj
    obtain ⟨dxs, hos⟩ := hm.st.obj
    refine ⟨_, rfl, A.m, cM, dx, _, _, rfl, ho, TM.cl, TM.nStore, rfl, A.s, dxs, _, rfl, hos, rfl, _, rfl, A.s, A.e, A.nm, A.sz, A.dp, vals, ne, e.t, rfl, hm.st, hne, ?_⟩
    -- the items
    have items : ∀ (ts : List T), e.t = .l ts → (∀ (H2 : Hp) (q : Addr) (ns : List Nat), Same H H2 → H q = none → H2 q = some (.lst (ns.map vint)) → Nums vals ns ts → True) := fun _ _ _ _ _ _ _ _ _ => trivial
    cases e with
    | v x =>
      simp only [step, Option.map_eq_some_iff] at hstep
      obtain ⟨t, hlk, rfl⟩ := hstep
      obtain ⟨kvs, hk1, hk2⟩ := hd
      obtain ⟨i, j, q1, q2, q3⟩ := hk2 x t hlk
      have := nodup_get hm.st.nd hne q1
      subst this
      obtain ⟨ns, h3, h4⟩ := hm.found
      have hnl := h4.length
      have hg : DGet H d (.int (ne : Int)) (some (vint j)) := by rw [← q2]; exact DGet.k (k := .inl (ne : Int)) hk1
      refine ⟨_, rfl, iteT ⟨_, rfl, A.m, cM, dx, _, _, rfl, ho, TM.cl, TM.nFound, rfl, .inl ⟨rfl, _, SqL.of h3⟩, _, rfl, _, rfl, d, _, rfl, hg, A.fl, _, _, rfl, rfl, h3, by rw [List.length_map, List.length_reverse]; simp only at hnl; omega, ?_⟩⟩
      refine k _ [] (Kp.refl.upd (.inl (by simp))) ?_ (Nat.zero_le _)
      rw [List.append_nil]
      exact hm.pushF h3 h4 q3
    | q t =>
      simp only [step, Option.some.injEq] at hstep
      subst hstep
      have hne : vals[ne]? = some (.l [.w sQuote, t]) := hne
      refine ⟨_, rfl, iteF ⟨_, rfl, A.m, cM, dx, _, _, rfl, ho, TM.cl, TM.nStore, rfl, A.s, dxs, _, rfl, hos, rfl, _, rfl, A.s, A.e, A.nm, A.sz, A.dp, vals, ne, _, rfl, hm.st, hne, (by show 2 ≤ 1000000; decide), fun H2 q ns S hq0 hq hns => ?_⟩⟩
      obtain ⟨n0, ns, rfl, g0, hns⟩ := hns.cons_eq
      obtain ⟨n1, ns, rfl, g1, hns⟩ := hns.cons_eq
      have hm2 := hm.same S
      clear ho hos hm hd
      obtain ⟨dx, y, ho, hy⟩ := hm2.obj
      obtain ⟨dxs, hos⟩ := hm2.st.obj
      obtain ⟨us, h1, hl, hen⟩ := hm2.st.ents
      obtain ⟨u, hu1, hu2⟩ := hen n0 _ g0
      cases (show u = .str sQuote from hu2)
      obtain ⟨ns', h3, h4⟩ := hm2.found
      have hnl := h4.length
      refine ⟨_, rfl, A.m, cM, dx, _, _, rfl, ho, TM.cl, TM.nStore, rfl, A.s, cS, dxs, _, _, rfl, hos, TS.cl, TS.nE, rfl, _, rfl, q, _, _, _, rfl, rfl, SqL.of hq, at0, A.e, _, _, _, rfl, rfl, SqL.of h1, atI_nat hu1, _, rfl, rfl, ?_⟩
      rw [decide_eq_true (show V.str sQuote = V.str "quote" from rfl)]
      refine ⟨_, rfl, iteT ⟨_, rfl, A.m, cM, dx, _, _, rfl, ho, TM.cl, TM.nFound, rfl, .inl ⟨rfl, _, SqL.of h3⟩, _, rfl, q, _, _, _, rfl, rfl, SqL.of hq, at1, A.fl, _, _, rfl, rfl, h3, by rw [List.length_map, List.length_reverse]; simp only at hnl; omega, ?_⟩⟩
      refine k _ [] ((Kp.of_same S).upd (.inl (by simp))) ?_ (Nat.zero_le _)
      rw [List.append_nil]
      exact hm2.pushF h3 h4 g1
    | app x es =>
      have hwa : ∀ e ∈ es, e.t.wide ≤ 100 := fun e he => Nat.le_trans (wide_arg he) hwd
      rw [E.t_app] at hne hwd ⊢
      have hesl : es.length + 1 ≤ 100 := by
        have := items_length (.l (.w x :: es.map E.t))
        simp only [tItems, List.length_cons, List.length_map] at this
        omega
      refine ⟨_, rfl, iteF ⟨_, rfl, A.m, cM, dx, _, _, rfl, ho, TM.cl, TM.nStore, rfl, A.s, dxs, _, rfl, hos, rfl, _, rfl, A.s, A.e, A.nm, A.sz, A.dp, vals, ne, _, rfl, hm.st, hne, (by rw [List.length_cons, List.length_map]; omega), fun H2 q ns S hq0 hq hns => ?_⟩⟩
      obtain ⟨n0, ns, rfl, g0, hnt⟩ := hns.cons_eq
      have hnsl := hnt.length
      rw [List.length_map] at hnsl
      have hm2 := hm.same S
      have hd2 := hd.stay (Stay.of_same S)
      have hqL : q ∉ A.L := fun z => hm.there q z hq0
      clear ho hos hm hd
      obtain ⟨dx, y, ho, hy⟩ := hm2.obj
      obtain ⟨dxs, hos⟩ := hm2.st.obj
      obtain ⟨us, h1, hl, hen⟩ := hm2.st.ents
      obtain ⟨u, hu1, hu2⟩ := hen n0 _ g0
      cases (show u = .str x from hu2)
      refine ⟨_, rfl, A.m, cM, dx, _, _, rfl, ho, TM.cl, TM.nStore, rfl, A.s, cS, dxs, _, _, rfl, hos, TS.cl, TS.nE, rfl, _, rfl, q, _, _, _, rfl, rfl, SqL.of hq, at0, A.e, _, _, _, rfl, rfl, SqL.of h1, atI_nat hu1, _, rfl, rfl, ?_⟩
      have hxq : ¬ x = sQuote := by
        rintro rfl
        simp only [step, if_neg (fun q => if_not_quote q.symm : ¬ sQuote = sIf), if_true] at hstep
        cases hstep
      rw [decide_eq_false (show ¬ V.str x = V.str "quote" from fun q => hxq (V.str.inj q))]
      refine ⟨_, rfl, iteF ⟨_, rfl, rfl, ?_⟩⟩
      by_cases hif : x = sIf
      · subst hif
        rw [decide_eq_true (show V.str sIf = V.str "if" from rfl)]
        refine ⟨_, rfl, iteT ?_⟩
        obtain ⟨e1, e2, e3, rfl⟩ : ∃ e1 e2 e3, es = [e1, e2, e3] := by
          simp only [step, if_true] at hstep
          split at hstep
          · exact ⟨_, _, _, rfl⟩
          · cases hstep
        simp only [step, if_true, Option.some.injEq] at hstep
        subst hstep
        obtain ⟨n1, ns, rfl, g1, hnu⟩ := hnt.cons_eq
        obtain ⟨n2, ns, rfl, g2, hnv⟩ := hnu.cons_eq
        obtain ⟨n3, ns, rfl, g3, hnx⟩ := hnv.cons_eq
        have w1 := hwa e1 (by simp)
        have w2 := hwa e2 (by simp)
        have w3 := hwa e3 (by simp)
        obtain ⟨tvs, h10, h11⟩ := hm2.todo
        have htv := Paired.length h11
        simp only at htv
        refine ⟨_, rfl, A.m, cM, dx, _, _, rfl, ho, TM.cl, TM.nTodo, rfl, .inl ⟨rfl, _, SqL.of h10⟩, _, rfl, q, _, _, _, rfl, rfl, SqL.of hq, at2, _, rfl, q, _, _, _, rfl, rfl, SqL.of hq, at3, _, rfl, (by show 4 ≤ sizeLine; decide), fun c hc => ?_⟩
        obtain ⟨i1, m3, kp3, st3⟩ := hm2.pushT h10 h11 hc (t := .br e2 e3 r) (xs := [.str "if", vint n2, vint n3, .ref d]) ⟨c, d, n2, n3, rfl, SqT.of upd_same, g2, g3, hd2.stay (Stay.of_same (same_upd hc)), w2, w3⟩
        refine ⟨A.tl, _, _, rfl, rfl, i1, by rw [List.length_reverse]; omega, ?_⟩
        have hq3 := kp3.keep q _ hqL hq
        have hd3 := hd2.stay st3
        clear ho hos hm2 hd2 h10 h11 hq i1
        generalize upd (upd H2 c (.tup [.str "if", vint n2, vint n3, .ref d])) A.tl (.lst (tvs.reverse ++ [.ref c])) = H3 at *
        obtain ⟨dx, y, ho, hy⟩ := m3.obj
        obtain ⟨tvs, h10, h11⟩ := m3.todo
        have htv := Paired.length h11
        simp only [List.length_cons] at htv
        refine ⟨_, rfl, A.m, cM, dx, _, _, rfl, ho, TM.cl, TM.nTodo, rfl, .inl ⟨rfl, _, SqL.of h10⟩, _, rfl, q, _, _, _, rfl, rfl, SqL.of hq3, at1, _, rfl, (by show 3 ≤ sizeLine; decide), fun c2 hc2 => ?_⟩
        obtain ⟨i1, m4, kp4, st4⟩ := m3.pushT h10 h11 hc2 (t := .ev e1 r) (xs := [.str "eval", vint n1, .ref d]) ⟨c2, d, n1, rfl, SqT.of upd_same, g1, hd3.stay (Stay.of_same (same_upd hc2)), w1⟩
        refine ⟨A.tl, _, _, rfl, rfl, i1, by rw [List.length_reverse]; omega, ?_⟩
        refine k _ [] (((Kp.of_same S).trans kp3).trans kp4) ?_ (Nat.zero_le _)
        rw [List.append_nil]
        exact m4
      · rw [decide_eq_false (show ¬ V.str x = V.str "if" from fun q => hif (V.str.inj q))]
        refine ⟨_, rfl, iteF ?_⟩
        simp only [step, if_neg hif, if_neg hxq, Option.some.injEq] at hstep
        subst hstep
        refine ⟨_, rfl, _, rfl, q, _, rfl, SqL.of hq, fun rl hrl => ?_⟩
        have ecut : cutV ((n0 :: ns).map vint) (some 1) none = ns.map vint := cutV_drop _ 1
        rw [ecut]
        have S3 := same_upd (o := .lst (ns.map vint)) hrl
        have hm3 := hm2.same S3
        have hd3 := hd2.stay (Stay.of_same S3)
        have hq3 := S3 _ _ hq
        have hr3 : upd H2 rl (.lst (ns.map vint)) rl = some (.lst (ns.map vint)) := upd_same
        have hrL : rl ∉ A.L := fun z => hm2.there rl z hrl
        have SS := S.trans S3
        clear ho hos hm2 hd2 hq S3 hrl hq0
        generalize upd H2 rl (.lst (ns.map vint)) = H3 at *
        obtain ⟨dx, y, ho, hy⟩ := hm3.obj
        obtain ⟨tvs, h10, h11⟩ := hm3.todo
        have htv := Paired.length h11
        simp only at htv
        refine ⟨_, rfl, A.m, cM, dx, _, _, rfl, ho, TM.cl, TM.nTodo, rfl, .inl ⟨rfl, _, SqL.of h10⟩, _, rfl, aP, _, rfl, .inr (TP.at_ _), rfl, rfl, _, rfl, ?_⟩
        rw [inV_plain]
        cases hpl : plain x
        · refine iteF ?_
          rw [hpl, if_neg Bool.false_ne_true] at k
          refine ⟨_, rfl, q, _, _, _, rfl, rfl, SqL.of hq3, at0, _, rfl, rl, _, rfl, .inl (SqL.of hr3), (by show 3 ≤ sizeLine; decide), fun c hc => ?_⟩
          rw [List.length_map, hnsl]
          obtain ⟨i1, m4, kp4, st4⟩ := hm3.pushT h10 h11 hc (t := .call x es.length) (xs := [.str "call", vint n0, vint es.length]) ⟨c, n0, rfl, SqT.of upd_same, g0⟩
          refine ⟨A.tl, _, _, rfl, rfl, i1, by rw [List.length_reverse]; omega, ?_⟩
          have hr4 := kp4.keep rl _ hrL hr3
          have hd4 := hd3.stay st4
          have kpA := (Kp.of_same SS).trans kp4
          clear h10 h11 ho hm3 hd3 kp4 hr3 i1 st4 hc
          generalize upd (upd H3 c (.tup [.str "call", vint n0, vint es.length])) A.tl (.lst (tvs.reverse ++ [.ref c])) = H4 at *
          generalize Task.call x es.length = tk at *
          refine ⟨_, rfl, rl, _, rfl, .inl ⟨SqL.of hr4, ?_⟩⟩
          refine RT.for_Itv (fun i σ' H' => ∃ (x6 : Option V), σ' = [some (.ref A.m), some (vint ne), some (.ref d), some (.ref q), some (.str x), some (.ref rl), x6] ∧ Kp A.L H H' ∧ MAt P w K cS cM H' A vals p ⟨(es.drop (es.length - i)).map (fun e => Task.ev e r) ++ tk :: todo, f, n + 1⟩ ∧ H' rl = some (.lst (ns.map vint)) ∧ EnvAt H' vals d r) ?_ ?_ ?_ ?_
          · refine ⟨_, rfl, kpA, ?_, hr4, hd4⟩
            rw [Nat.sub_zero, List.drop_length]
            exact m4
          · rintro i σ' H' ⟨x6, rfl, _, _, c, _⟩
            exact SqL.of c
          · rintro i v σ' H' hi hv ⟨x6, rfl, c1, c2, c3, c4⟩
            rw [List.length_map, hnsl] at hi hv
            rw [List.getElem?_map, Option.map_eq_some_iff] at hv
            obtain ⟨nv, hnv, rfl⟩ := hv
            obtain ⟨tv, htv', hvv⟩ := hnt.get' hnv
            rw [List.getElem?_map, Option.map_eq_some_iff] at htv'
            obtain ⟨ei, hei, rfl⟩ := htv'
            have hdrop : es.drop (es.length - (i + 1)) = ei :: es.drop (es.length - i) := by
              have h0 : es.length - (i + 1) < es.length := by omega
              rw [List.drop_eq_getElem_cons h0]
              have h1 : es[es.length - (i + 1)]? = some ei := by rw [show es.length - (i + 1) = es.length - 1 - i by omega]; exact hei
              rw [List.getElem?_eq_getElem h0] at h1
              rw [Option.some.inj h1, show es.length - (i + 1) + 1 = es.length - i by omega]
            obtain ⟨dx, y, ho, hy⟩ := c2.obj
            obtain ⟨tvs, h10, h11⟩ := c2.todo
            have htv := Paired.length h11
            simp only [List.length_append, List.length_map, List.length_drop, List.length_cons] at htv
            refine ⟨_, rfl, A.m, cM, dx, _, _, rfl, ho, TM.cl, TM.nTodo, rfl, .inl ⟨rfl, _, SqL.of h10⟩, _, rfl, _, rfl, (by show 3 ≤ sizeLine; decide), fun c2' hc2 => ?_⟩
            obtain ⟨i1, m5, kp5, st5⟩ := c2.pushT h10 h11 hc2 (t := .ev ei r) (xs := [.str "eval", vint nv, .ref d]) ⟨c2', d, nv, rfl, SqT.of upd_same, hvv, c4.stay (Stay.of_same (same_upd hc2)), hwa ei (List.mem_of_getElem? hei)⟩
            refine ⟨A.tl, _, _, rfl, rfl, i1, by rw [List.length_reverse]; omega, ?_⟩
            refine ⟨_, rfl, c1.trans kp5, ?_, kp5.keep rl _ hrL c3, c4.stay st5⟩
            rw [hdrop]
            exact m5
          · rintro σ' H' ⟨x6, rfl, c1, c2, c3, c4⟩
            rw [List.length_map, hnsl, Nat.sub_self, List.drop_zero] at c2
            refine k _ [] c1 ?_ (Nat.zero_le _)
            rw [List.append_nil]
            exact c2
        · rw [hpl, if_pos rfl] at k
          refine iteT ⟨_, rfl, (by show 2 ≤ sizeLine; decide), fun c hc => ?_⟩
          obtain ⟨i1, m4, kp4, st4⟩ := hm3.pushT h10 h11 hc (t := .op x) (xs := [.str "do", .str x]) ⟨c, rfl, SqT.of upd_same⟩
          refine ⟨A.tl, _, _, rfl, rfl, i1, by rw [List.length_reverse]; omega, ?_⟩
          have hr4 := kp4.keep rl _ hrL hr3
          have hd4 := hd3.stay st4
          have kpA := (Kp.of_same SS).trans kp4
          clear h10 h11 ho hm3 hd3 kp4 hr3 i1 st4 hc
          generalize upd (upd H3 c (.tup [.str "do", .str x])) A.tl (.lst (tvs.reverse ++ [.ref c])) = H4 at *
          generalize Task.op x = tk at *
          refine ⟨_, rfl, rl, _, rfl, .inl ⟨SqL.of hr4, ?_⟩⟩
          refine RT.for_Itv (fun i σ' H' => ∃ (x6 : Option V), σ' = [some (.ref A.m), some (vint ne), some (.ref d), some (.ref q), some (.str x), some (.ref rl), x6] ∧ Kp A.L H H' ∧ MAt P w K cS cM H' A vals p ⟨(es.drop (es.length - i)).map (fun e => Task.ev e r) ++ tk :: todo, f, n + 1⟩ ∧ H' rl = some (.lst (ns.map vint)) ∧ EnvAt H' vals d r) ?_ ?_ ?_ ?_
          · refine ⟨_, rfl, kpA, ?_, hr4, hd4⟩
            rw [Nat.sub_zero, List.drop_length]
            exact m4
          · rintro i σ' H' ⟨x6, rfl, _, _, c, _⟩
            exact SqL.of c
          · rintro i v σ' H' hi hv ⟨x6, rfl, c1, c2, c3, c4⟩
            rw [List.length_map, hnsl] at hi hv
            rw [List.getElem?_map, Option.map_eq_some_iff] at hv
            obtain ⟨nv, hnv, rfl⟩ := hv
            obtain ⟨tv, htv', hvv⟩ := hnt.get' hnv
            rw [List.getElem?_map, Option.map_eq_some_iff] at htv'
            obtain ⟨ei, hei, rfl⟩ := htv'
            have hdrop : es.drop (es.length - (i + 1)) = ei :: es.drop (es.length - i) := by
              have h0 : es.length - (i + 1) < es.length := by omega
              rw [List.drop_eq_getElem_cons h0]
              have h1 : es[es.length - (i + 1)]? = some ei := by rw [show es.length - (i + 1) = es.length - 1 - i by omega]; exact hei
              rw [List.getElem?_eq_getElem h0] at h1
              rw [Option.some.inj h1, show es.length - (i + 1) + 1 = es.length - i by omega]
            obtain ⟨dx, y, ho, hy⟩ := c2.obj
            obtain ⟨tvs, h10, h11⟩ := c2.todo
            have htv := Paired.length h11
            simp only [List.length_append, List.length_map, List.length_drop, List.length_cons] at htv
            refine ⟨_, rfl, A.m, cM, dx, _, _, rfl, ho, TM.cl, TM.nTodo, rfl, .inl ⟨rfl, _, SqL.of h10⟩, _, rfl, _, rfl, (by show 3 ≤ sizeLine; decide), fun c2' hc2 => ?_⟩
            obtain ⟨i1, m5, kp5, st5⟩ := c2.pushT h10 h11 hc2 (t := .ev ei r) (xs := [.str "eval", vint nv, .ref d]) ⟨c2', d, nv, rfl, SqT.of upd_same, hvv, c4.stay (Stay.of_same (same_upd hc2)), hwa ei (List.mem_of_getElem? hei)⟩
            refine ⟨A.tl, _, _, rfl, rfl, i1, by rw [List.length_reverse]; omega, ?_⟩
            refine ⟨_, rfl, c1.trans kp5, ?_, kp5.keep rl _ hrL c3, c4.stay st5⟩
            rw [hdrop]
            exact m5
          · rintro σ' H' ⟨x6, rfl, c1, c2, c3, c4⟩
            rw [List.length_map, hnsl, Nat.sub_self, List.drop_zero] at c2
            refine k _ [] c1 ?_ (Nat.zero_le _)
            rw [List.append_nil]
            exact c2
end
end K46
/-! Machine: go_on. -/
namespace K46
open PySem PySem.Spec PyProof.Rows L2

def spGoOn (P : Program) (w : World) (K : PySem.W.Frag) (cS cM : Addr) : Sp := fun vs H Q _ => ∃ (A : MAd) (vals : List T) (p : Prog) (a : M) (lim m n : Nat) (t : T), vs = [.ref A.m, vint lim] ∧ MAt P w K cS cM H A vals p a ∧ Runs p a m t n ∧ n ≤ lim ∧
  a.todo.length + 101 * m ≤ 10000000 ∧ a.found.length + m ≤ 10000000 ∧ vals.length + m ≤ 1000000 ∧ ∀ (H' : Hp) (more : List T), Kp A.L H H' → MAt P w K cS cM H' A (vals ++ more) p ⟨[], [t], n⟩ → more.length ≤ m → Q .non H'
abbrev sGoOn : Stmt := inClass (top 34) 3
theorem sc_sGoOn : FnScope ["self", "limit", "task", "chosen", "many", "numbers", "_"] ["self", "limit"] (defScope sGoOn) := ⟨rfl, rfl, rfl, by decide +kernel, rfl, by decide +kernel, by decide +kernel⟩
section
variable {P : Program} {w : World} {K : PySem.W.Frag} {mg : Str → Option Value} {base : Heap} {cS cM aP : Addr}
theorem ok_goOn {f fE fD fB : Addr} {fd fdE fdD fdB : FuncData} (B : Bl mg) (TS : TxtS K mg cS) (TM : TxtM K mg cM) (D : MDf K cM "go_on" "Machine.go_on" sGoOn ["self", "limit"] f fd)
    (DE : MDf K cM "evaluate" "Machine.evaluate" sEvaluate ["self", "expression", "names"] fE fdE) (GE : FnOk P w K mg base CX0 3 fE fdE ["self", "expression", "names"] (spEvaluate P w K cS cM))
    (DD : MDf K cM "do" "Machine.do" sDo ["self", "word"] fD fdD) (GD : FnOk P w K mg base CX0 3 fD fdD ["self", "word"] (spDo P w K cS cM))
    (DB : MDf K cM "begin" "Machine.begin" sBegin ["self", "name", "numbers"] fB fdB) (GB : FnOk P w K mg base CX0 3 fB fdB ["self", "name", "numbers"] (spBegin P w K cS cM)) :
    FnOk P w K mg base CX0 4 f fd ["self", "limit"] (spGoOn P w K cS cM) := by
  refine D.F.ok sc_sGoOn (fun vs H Q XE h => ?_) (fun cdv AA outer st H vs Q XE hr h => ?_)
  · obtain ⟨A, vals, p, a, lim, m, n, t, rfl, _⟩ := h
    rfl
  · obtain ⟨A, vals, p, a, lim, m0, n, t, rfl, hm, hrun, hlim, hb1, hb2, hb3, k⟩ := h
    have nd := sc_sGoOn.nd
    have hu := hu_of hr
    obtain ⟨tZ, eZ⟩ := TS.empty
    refine ⟨_,
      (pss_one (ps_while PassesOwn.never (PW.pt (pw_and (pt_cmpR op_gt (pe_callB call_len_seq (by rfl) B.len PySem.boot_len (pa_cons (pe_fld (pv 0) rfl) pa_nil)) pe_int (nomark _)) (pw_and1 (pt_cmp (pc_isN (pe_fld (pv 0) rfl))))))
      (pss_cons (ps_set (i := 2) nd rfl (.inl rfl) (pe_bm0 PySem.F.plainAttrs_list PySem.F.slot_list_pop PySem.F.type_list_pop mt_pop (pe_fld (pv 0) rfl)))
      (pss_one (ps_if (pt_cmpR op_eq (pe_ix ix_tup (pv 2) pe_int (fun _ _ => rfl)) pe_str (nomark _))
      (pss_cons (ps_if (pt_cmpR op_eq (pe_fld (pv 0) rfl) (pv 1) (nomark _))
      pss_never
      pss_nil)
      (pss_cons (ps_fld (pv 0) (pe_op op_add (pe_fld (pv 0) rfl) pe_int) rfl)
      (pss_one (ps_expr (pe_meth (pv 0) TM.cl DE.m GE hr DE.b .nil pass0 (pa_cons (pe_ix ix_tup (pv 2) pe_int (fun _ _ => rfl)) (pa_cons (pe_ix ix_tup (pv 2) pe_int (fun _ _ => rfl)) pa_nil)))))))
      (pss_one (ps_if (pt_cmpR op_eq (pe_ix ix_tup (pv 2) pe_int (fun _ _ => rfl)) pe_str (nomark _))
      (pss_one (ps_expr (pe_meth (pv 0) TM.cl DD.m GD hr DD.b .nil pass0 (pa_cons (pe_ix ix_tup (pv 2) pe_int (fun _ _ => rfl)) pa_nil))))
      (pss_one (ps_if (pt_cmpR op_eq (pe_ix ix_tup (pv 2) pe_int (fun _ _ => rfl)) pe_str (nomark _))
      (pss_cons (ps_set (i := 3) nd rfl (.inl rfl) (pe_ifExp (pt_cmpR op_eq (pe_bm0 PySem.F.plainAttrs_list PySem.F.slot_list_pop PySem.F.type_list_pop mt_pop (pe_fld (pv 0) rfl)) (pe_glob (v := .int 0) (by rfl) eZ ⟨_, rfl⟩) (nomark _)) (pe_ix ix_tup (pv 2) pe_int (fun _ _ => rfl)) (pe_ix ix_tup (pv 2) pe_int (fun _ _ => rfl))))
      (pss_one (ps_expr (pe_bm PySem.F.plainAttrs_list PySem.F.slot_list_append PySem.F.type_list_append mt_append (pe_fld (pv 0) rfl) (pa_cons (pe_tup (pa_cons pe_str (pa_cons (pv 3) (pa_cons (pe_ix ix_tup (pv 2) pe_int (fun _ _ => rfl)) pa_nil)))) pa_nil)))))
      (pss_one (ps_if (pt_cmpR op_eq (pe_ix ix_tup (pv 2) pe_int (fun _ _ => rfl)) pe_str (nomark _))
      (pss_cons (ps_set (i := 4) nd rfl (.inl rfl) (pe_op op_sub (pe_callB call_len_seq (by rfl) B.len PySem.boot_len (pa_cons (pe_fld (pv 0) rfl) pa_nil)) (pe_ix ix_tup (pv 2) pe_int (fun _ _ => rfl))))
      (pss_cons (ps_set (i := 5) nd rfl (.inl rfl) (pe_callTy call_tupOf (by rfl) B.tuple PyProof.Rows.boot_tuple (pa_cons (pe_slice sl_list (pe_fld (pv 0) rfl) (po_some (pv 4)) po_none) pa_nil)))
      (pss_cons (ps_for PassesOwn.never rfl (pi_tup (pv 5)) (pg_name (i := 6) nd rfl (.inl rfl))
      (pss_one (ps_expr (pe_bm0 PySem.F.plainAttrs_list PySem.F.slot_list_pop PySem.F.type_list_pop mt_pop (pe_fld (pv 0) rfl)))))
      (pss_one (ps_expr (pe_meth (pv 0) TM.cl DB.m GB hr DB.b .nil pass0 (pa_cons (pe_ix ix_tup (pv 2) pe_int (fun _ _ => rfl)) (pa_cons (pv 5) pa_nil))))))))
      pss_never)))))))))))
      , ?_⟩
    have hs : sizeLine = 16777216 := rfl
    refine ⟨fun m σ H' => ∃ (a' : M) (more : List T) (x2 x3 x4 x5 x6 : Option V), σ = [some (.ref A.m), some (vint lim), x2, x3, x4, x5, x6] ∧ Kp A.L H H' ∧ MAt P w K cS cM H' A (vals ++ more) p a' ∧ Runs p a' m t n ∧ more.length + m ≤ m0 ∧ a'.todo.length + 101 * m ≤ 10000000 ∧ a'.found.length + m ≤ 10000000,
      ⟨m0, a, [], none, none, none, none, none, rfl, Kp.refl, by rw [List.append_nil]; exact hm, hrun, by simp, hb1, hb2⟩, ?_⟩
    clear hrun hb1 hb2
    rintro m σ H' ⟨a', more, x2, x3, x4, x5, x6, rfl, kp, hm', hrun, hmo, hb1, hb2⟩
    clear hm
    obtain ⟨dx, y, ho, hy⟩ := hm'.obj
    obtain ⟨tvs, h10, h11⟩ := hm'.todo
    have htv := Paired.length h11
    refine ⟨_, rfl, A.m, cM, dx, _, _, rfl, ho, TM.cl, TM.nTodo, rfl, A.tl, _, rfl, .inl (SqL.of h10), _, _, rfl, rfl, _, rfl, ?_⟩
    cases hrun with
    | fin =>
      cases h11
      rw [decide_eq_false (show ¬ ((0 : Int) < ((([] : List V).reverse.length : Nat) : Int)) by decide)]
      refine iteF ?_
      exact k H' more kp hm' (by omega)
    | @go _ b m _ _ hstep hrun =>
      obtain ⟨todo, found, steps⟩ := a'
      cases h11 with
      | nil => exact nomatch hstep
      | @cons tk v todo tvs htk h11 =>
        rw [decide_eq_true (show (0 : Int) < (((v :: tvs).reverse.length : Nat) : Int) by simp)]
        refine iteT ⟨_, rfl, A.m, cM, dx, _, _, rfl, ho, TM.cl, TM.nPair, rfl, _, rfl, ?_⟩
        rw [decide_eq_true (show V.non = V.non from rfl)]
        refine iteT ?_
        refine ⟨fun σ' H1 => ∃ (more' : List T) (x2 x3 x4 x5 x6 : Option V), σ' = [some (.ref A.m), some (vint lim), x2, x3, x4, x5, x6] ∧ Kp A.L H H1 ∧ MAt P w K cS cM H1 A (vals ++ more') p b ∧ more'.length ≤ more.length + 1 ∧ b.todo.length ≤ todo.length + 101 ∧ b.found.length ≤ found.length + 1, ?_, ?_⟩
        · rintro σ' H1 ⟨more', x2, x3, x4, x5, x6, rfl, c1, c2, c3, c4, c5⟩
          simp only [List.length_cons] at hb1
          simp only at hb2
          exact ⟨m, Nat.lt_succ_self _, b, more', x2, x3, x4, x5, x6, rfl, c1, c2, hrun, by omega, by omega, by omega⟩
        have hnl := hrun.le
        refine ⟨_, rfl, A.m, cM, dx, _, _, rfl, ho, TM.cl, TM.nTodo, rfl, .inl ⟨rfl, _, SqL.of h10⟩, A.tl, _, _, rfl, rfl, h10, rev_last _ _, ?_⟩
        rw [dropLast_rev]
        have m1 := hm'.setT (ts := todo) (tvs := tvs) h11
        have kp1 : Kp A.L H (upd H' A.tl (.lst tvs.reverse)) := kp.upd (.inl (by simp))
        have st1 : Stay H' (upd H' A.tl (.lst tvs.reverse)) := hm'.stay (Kp.refl.upd (.inl (by simp)))
        have htk := htk.stay st1
        simp only [List.length_cons] at htv hb1
        simp only at hb2
        clear ho hy h10 h11 kp hm' st1
        generalize upd H' A.tl (.lst tvs.reverse) = H1 at *
        obtain ⟨dx, y, ho, hy⟩ := m1.obj
        -- the end of a turn
        have fin : ∀ (x2 x3 x4 x5 x6 : Option V) (H2 : Hp) (more2 : List T), Kp A.L H1 H2 → MAt P w K cS cM H2 A (vals ++ more ++ more2) p b → more2.length ≤ 1 → b.todo.length ≤ todo.length + 101 → b.found.length ≤ found.length + 1 →
            ∃ (more' : List T) (y2 y3 y4 y5 y6 : Option V), [some (.ref A.m), some (vint lim), x2, x3, x4, x5, x6] = [some (.ref A.m), some (vint lim), y2, y3, y4, y5, y6] ∧ Kp A.L H H2 ∧ MAt P w K cS cM H2 A (vals ++ more') p b ∧ more'.length ≤ more.length + 1 ∧ b.todo.length ≤ todo.length + 101 ∧ b.found.length ≤ found.length + 1 := by
          intro x2 x3 x4 x5 x6 H2 more2 a1 a2 a3 a4 a5
          rw [List.append_assoc] at a2
          exact ⟨more ++ more2, _, _, _, _, _, rfl, kp1.trans a1, a2, by rw [List.length_append]; omega, a4, a5⟩
        cases tk with
        | ev e r =>
          obtain ⟨c, d, ne, rfl, hcT, hne, hd, hwd⟩ := htk
          refine ⟨_, rfl, c, _, _, _, rfl, rfl, hcT, at0, rfl, ?_⟩
          rw [decide_eq_true (show V.str "eval" = V.str "eval" from rfl)]
          refine ⟨_, rfl, iteT ?_⟩
          refine ⟨_, rfl, A.m, cM, dx, _, _, rfl, ho, TM.cl, TM.nSteps, rfl, _, rfl, rfl, ?_⟩
          have hbn : b.steps = steps + 1 ∧ b.todo.length ≤ todo.length + 101 ∧ b.found.length ≤ found.length + 1 := by
            cases e with
            | v x => simp only [step, Option.map_eq_some_iff] at hstep; obtain ⟨_, _, rfl⟩ := hstep; exact ⟨rfl, by simp only; omega, by simp only [List.length_cons]; omega⟩
            | q t => simp only [step, Option.some.injEq] at hstep; subst hstep; exact ⟨rfl, by simp only; omega, by simp only [List.length_cons]; omega⟩
            | app x es =>
              have hesl := items_length (E.app x es).t
              rw [E.t_app] at hesl hwd
              simp only [tItems, List.length_cons, List.length_map] at hesl
              simp only [step] at hstep
              split at hstep
              · split at hstep
                · cases hstep; exact ⟨rfl, by simp only [List.length_cons]; omega, by simp only; omega⟩
                · cases hstep
              · split at hstep
                · cases hstep
                · cases hstep; exact ⟨rfl, by simp only [List.length_append, List.length_map, List.length_cons]; omega, by simp only; omega⟩
          rw [decide_eq_false (show ¬ V.int ((steps : Nat) : Int) = V.int ((lim : Nat) : Int) from fun q => by have := V.int.inj q; omega)]
          refine ⟨_, rfl, iteF ?_⟩
          refine ⟨_, rfl, A.m, cM, dx, _, _, rfl, ho, TM.cl, TM.nSteps, rfl, _, _, rfl, rfl, _, rfl, A.m, cM, dx, _, rfl, ho, TM.cl, TM.nSteps, (by show 9 < 1000; decide), ?_⟩
          have e1 : putF "steps" (.int (((steps : Nat) : Int) + 1)) (fieldsM A y steps) = fieldsM A y (steps + 1) := rfl
          have m2 := m1.setN (dx := dx) (y := y) (n := steps + 1) hy
          have kp2 : Kp A.L H1 (upd H1 A.m (.ins cM dx (fieldsM A y (steps + 1)))) := Kp.refl.upd (.inl (by simp))
          have st2 := m1.stay kp2
          refine ⟨_, rfl, A.m, dx, _, rfl, upd_same, rfl, _, rfl, c, _, _, _, rfl, rfl, hcT.tups st2.tups, at1, _, rfl, c, _, _, _, rfl, rfl, hcT.tups st2.tups, at2, ?_⟩
          refine ⟨A, vals ++ more, p, todo, found, steps, ne, d, e, r, b, rfl, m2, hne, hd.stay st2, hwd, hstep, by omega, by omega, fun H3 more3 kp3 m3 hl3 => ?_⟩
          exact fin _ _ _ _ _ H3 more3 (kp2.trans kp3) m3 (by omega) hbn.2.1 hbn.2.2
        | br ea eb r =>
          obtain ⟨c, d, n1, n2, rfl, hcT, hn1, hn2, hd, hw1, hw2⟩ := htk
          refine ⟨_, rfl, c, _, _, _, rfl, rfl, hcT, at0, rfl, ?_⟩
          rw [decide_eq_false (show ¬ V.str "if" = V.str "eval" by decide +kernel)]
          refine ⟨_, rfl, iteF ?_⟩
          refine ⟨_, rfl, c, _, _, _, rfl, rfl, hcT, at0, rfl, ?_⟩
          rw [decide_eq_false (show ¬ V.str "if" = V.str "do" by decide +kernel)]
          refine ⟨_, rfl, iteF ?_⟩
          refine ⟨_, rfl, c, _, _, _, rfl, rfl, hcT, at0, rfl, ?_⟩
          rw [decide_eq_true (show V.str "if" = V.str "if" from rfl)]
          refine ⟨_, rfl, iteT ?_⟩
          cases found with
          | nil => simp [step] at hstep
          | cons t0 f0 =>
            simp only [step, Option.some.injEq] at hstep
            subst hstep
            obtain ⟨ns0, h3, h4⟩ := m1.found
            obtain ⟨n0, ns, rfl, g0, h5⟩ := h4.cons_eq
            have erev : (n0 :: ns).reverse.map vint = (vint n0 :: ns.map vint).reverse := by rw [List.map_reverse]; rfl
            rw [erev] at h3
            refine ⟨_, rfl, A.m, cM, dx, _, _, rfl, ho, TM.cl, TM.nFound, rfl, .inl ⟨rfl, _, SqL.of h3⟩, A.fl, _, _, rfl, rfl, h3, rev_last _ _, rfl, ?_⟩
            rw [dropLast_rev, ← List.map_reverse]
            have m2 := m1.popF (ns := ns) (f := f0) (n := n0) h5
            have kp2 : Kp A.L H1 (upd H1 A.fl (.lst (ns.reverse.map vint))) := Kp.refl.upd (.inl (by simp))
            have st2 := m1.stay kp2
            have hcT := hcT.tups st2.tups
            have hd := hd.stay st2
            clear ho hy m1 h3 h4 st2
            generalize upd H1 A.fl (.lst (ns.reverse.map vint)) = H2 at *
            -- the chosen branch
            have tail : ∀ (nc : Nat) (ec : E), (vals ++ more)[nc]? = some ec.t → ec.t.wide ≤ 100 → (if t0 = nil then eb else ea) = ec → ∀ (c2 : Addr), H2 c2 = none → ∀ tvs : List V, H2 A.tl = some (.lst tvs.reverse) → Paired (TaskAt K H2 (vals ++ more)) todo tvs →
                upd H2 c2 (.tup [.str "eval", vint nc, .ref d]) A.tl = some (.lst tvs.reverse) ∧ MAt P w K cS cM (upd (upd H2 c2 (.tup [.str "eval", vint nc, .ref d])) A.tl (.lst (tvs.reverse ++ [.ref c2]))) A (vals ++ more) p ⟨.ev (if t0 = nil then eb else ea) r :: todo, f0, steps⟩ ∧
                  Kp A.L H2 (upd (upd H2 c2 (.tup [.str "eval", vint nc, .ref d])) A.tl (.lst (tvs.reverse ++ [.ref c2]))) := by
              rintro nc ec q1 q2 rfl c2 hc2 tvs q3 q4
              obtain ⟨a1, a2, a3, a4⟩ := m2.pushT q3 q4 hc2 (t := .ev (if t0 = nil then eb else ea) r) (xs := [.str "eval", vint nc, .ref d]) ⟨c2, d, nc, rfl, SqT.of upd_same, q1, hd.stay (Stay.of_same (same_upd hc2)), q2⟩
              exact ⟨a1, a2, a3⟩
            obtain ⟨tvs2, q3, q4⟩ := m2.todo
            have q4 : Paired (TaskAt K H2 (vals ++ more)) todo tvs2 := q4
            have tl2 := Paired.length q4
            obtain ⟨dx, y, ho, hy⟩ := m2.obj
            by_cases hz : t0 = nil
            · subst hz
              have := nodup_get m2.st.nd g0 m2.st.zero
              subst this
              rw [decide_eq_true (show V.int ((0 : Nat) : Int) = V.int 0 from rfl)]
              refine ⟨_, rfl, iteT ?_⟩
              refine ⟨_, rfl, c, _, _, _, rfl, rfl, hcT, at2, ?_⟩
              refine ⟨_, rfl, A.m, cM, dx, _, _, rfl, ho, TM.cl, TM.nTodo, rfl, .inl ⟨rfl, _, SqL.of q3⟩, _, rfl, _, rfl, c, _, _, _, rfl, rfl, hcT, at3, (by show 3 ≤ sizeLine; decide), fun c2 hc2 => ?_⟩
              obtain ⟨a1, a2, a3⟩ := tail n2 eb hn2 hw2 (if_pos rfl) c2 hc2 tvs2 q3 q4
              refine ⟨A.tl, _, _, rfl, rfl, a1, by rw [List.length_reverse]; omega, ?_⟩
              exact fin _ _ _ _ _ _ [] (kp2.trans a3) (by rw [List.append_nil]; exact a2) (Nat.zero_le _) (by simp only [List.length_cons]; omega) (by simp only [List.length_cons]; omega)
            · have hz0 : n0 ≠ 0 := by
                rintro rfl
                have := m2.st.zero
                rw [g0] at this
                cases this
                exact hz rfl
              rw [decide_eq_false (show ¬ V.int ((n0 : Nat) : Int) = V.int 0 from fun q => by have := V.int.inj q; omega)]
              refine ⟨_, rfl, iteF ?_⟩
              refine ⟨_, rfl, c, _, _, _, rfl, rfl, hcT, at1, ?_⟩
              refine ⟨_, rfl, A.m, cM, dx, _, _, rfl, ho, TM.cl, TM.nTodo, rfl, .inl ⟨rfl, _, SqL.of q3⟩, _, rfl, _, rfl, c, _, _, _, rfl, rfl, hcT, at3, (by show 3 ≤ sizeLine; decide), fun c2 hc2 => ?_⟩
              obtain ⟨a1, a2, a3⟩ := tail n1 ea hn1 hw1 (if_neg hz) c2 hc2 tvs2 q3 q4
              refine ⟨A.tl, _, _, rfl, rfl, a1, by rw [List.length_reverse]; omega, ?_⟩
              exact fin _ _ _ _ _ _ [] (kp2.trans a3) (by rw [List.append_nil]; exact a2) (Nat.zero_le _) (by simp only [List.length_cons]; omega) (by simp only [List.length_cons]; omega)
        | op x =>
          obtain ⟨c, rfl, hcT⟩ := htk
          refine ⟨_, rfl, c, _, _, _, rfl, rfl, hcT, at0, rfl, ?_⟩
          rw [decide_eq_false (show ¬ V.str "do" = V.str "eval" by decide +kernel)]
          refine ⟨_, rfl, iteF ?_⟩
          refine ⟨_, rfl, c, _, _, _, rfl, rfl, hcT, at0, rfl, ?_⟩
          rw [decide_eq_true (show V.str "do" = V.str "do" from rfl)]
          refine ⟨_, rfl, iteT ?_⟩
          simp only [step, Option.map_eq_some_iff] at hstep
          obtain ⟨f', hop, rfl⟩ := hstep
          have hfl : f'.length ≤ found.length + 1 := by
            obtain ⟨t0, f0, rfl, hcs⟩ := doOp_cases hop
            rcases hcs with ⟨_, rfl⟩ | ⟨_, rfl⟩ | ⟨_, rfl⟩ | ⟨b0, g, rfl, ⟨_, rfl⟩ | ⟨_, rfl⟩⟩ <;> simp only [List.length_cons] <;> omega
          refine ⟨_, rfl, A.m, dx, _, rfl, ho, rfl, _, rfl, c, _, _, _, rfl, rfl, hcT, at1, ?_⟩
          refine ⟨A, vals ++ more, p, ⟨todo, found, steps⟩, x, f', rfl, m1, hop, by rw [List.length_append]; omega, by simp only; omega, fun H3 more3 kp3 m3 hl3 => ?_⟩
          exact fin _ _ _ _ _ H3 more3 kp3 m3 hl3 (by simp only; omega) hfl
        | call g n3 =>
          obtain ⟨c, ni, rfl, hcT, hni⟩ := htk
          refine ⟨_, rfl, c, _, _, _, rfl, rfl, hcT, at0, rfl, ?_⟩
          rw [decide_eq_false (show ¬ V.str "call" = V.str "eval" by decide +kernel)]
          refine ⟨_, rfl, iteF ?_⟩
          refine ⟨_, rfl, c, _, _, _, rfl, rfl, hcT, at0, rfl, ?_⟩
          rw [decide_eq_false (show ¬ V.str "call" = V.str "do" by decide +kernel)]
          refine ⟨_, rfl, iteF ?_⟩
          refine ⟨_, rfl, c, _, _, _, rfl, rfl, hcT, at0, rfl, ?_⟩
          rw [decide_eq_false (show ¬ V.str "call" = V.str "if" by decide +kernel)]
          refine ⟨_, rfl, iteF ?_⟩
          refine ⟨_, rfl, c, _, _, _, rfl, rfl, hcT, at0, rfl, ?_⟩
          rw [decide_eq_true (show V.str "call" = V.str "call" from rfl)]
          refine ⟨_, rfl, iteT ?_⟩
          simp only [step] at hstep
          obtain ⟨fn, hlk, hif⟩ : ∃ fn, look p g = some fn ∧ (if n3 = fn.ps.length ∧ n3 ≤ found.length then some (⟨.ev fn.body (fn.ps.zip (found.take n3).reverse) :: todo, found.drop n3, steps⟩ : M) else none) = some b := by
            cases e : look p g with
            | none => rw [e] at hstep; cases hstep
            | some fn => rw [e] at hstep; exact ⟨fn, rfl, hstep⟩
          have hcond : n3 = fn.ps.length ∧ n3 ≤ found.length := Classical.byContradiction fun hh => by rw [if_neg hh] at hif; cases hif
          rw [if_pos hcond] at hif
          cases hif
          obtain ⟨hc1, hc2⟩ := hcond
          obtain ⟨ns, h3, h4⟩ := m1.found
          have h4 : Nums (vals ++ more) ns found := h4
          have hnl4 := h4.length
          have htk : Nums (vals ++ more) (ns.take n3) (found.take n3) ∧ Nums (vals ++ more) (ns.drop n3) (found.drop n3) := by
            have e9 : (found.take n3).length = n3 := by rw [List.length_take]; omega
            have := (show Nums (vals ++ more) ns (found.take n3 ++ found.drop n3) by rw [List.take_append_drop]; exact h4).split
            rw [e9] at this
            exact this
          refine ⟨_, rfl, A.m, cM, dx, _, _, rfl, ho, TM.cl, TM.nFound, rfl, A.fl, _, rfl, .inl (SqL.of h3), _, rfl, c, _, _, _, rfl, rfl, hcT, at2, _, _, rfl, rfl, ?_⟩
          rw [List.length_map, List.length_reverse]
          have em : ((ns.length : Nat) : Int) - ((n3 : Nat) : Int) = ((ns.length - n3 : Nat) : Int) := by omega
          refine ⟨_, rfl, A.m, cM, dx, _, _, rfl, ho, TM.cl, TM.nFound, rfl, _, rfl, _, rfl, A.fl, _, rfl, SqL.of h3, fun rl hrl => ?_⟩
          have ecut : cutV (ns.reverse.map vint) (some (((ns.length : Nat) : Int) - ((n3 : Nat) : Int))) none = (ns.take n3).reverse.map vint := by
            rw [em, cutV_drop, ← List.map_drop, List.drop_reverse, show ns.length - (ns.length - n3) = n3 by omega]
          rw [ecut]
          have S2 := same_upd (o := .lst ((ns.take n3).reverse.map vint)) hrl
          have hrl2 : upd H1 rl (.lst ((ns.take n3).reverse.map vint)) rl = some (.lst ((ns.take n3).reverse.map vint)) := upd_same
          have m2 := m1.same S2
          have h32 := S2 _ _ h3
          have hcT := hcT.same S2
          clear ho hy m1 h3
          generalize upd H1 rl (.lst ((ns.take n3).reverse.map vint)) = H2 at *
          refine ⟨rl, _, rfl, SqL.of hrl2, fun nb H3 S3 hnb => ?_⟩
          have m3 := m2.same S3
          have h33 := S3 _ _ h32
          have hcT := hcT.same S3
          have S13 := S2.trans S3
          clear m2 h32 hrl2
          have hnbl : ((ns.take n3).reverse.map vint).length = n3 := by rw [List.length_map, List.length_reverse, List.length_take]; omega
          refine ⟨_, rfl, nb, rfl, ⟨_, hnb⟩, ?_⟩
          refine for_tup (xs := (ns.take n3).reverse.map vint) (fun i σ' H' => ∃ x6, σ' = [some (.ref A.m), some (vint lim), some (.ref c), x3, some (.int (((ns.length : Nat) : Int) - ((n3 : Nat) : Int))), some (.ref nb), x6] ∧ Kp A.L H3 H' ∧ MAt P w K cS cM H' A (vals ++ more) p ⟨todo, found.drop i, steps⟩ ∧ H' A.fl = some (.lst ((ns.drop i).reverse.map vint))) ?_ ?_ ?_ ?_
          · exact ⟨_, rfl, Kp.refl, m3, h33⟩
          · rintro i σ' H' _ ⟨x6, rfl, c1, _⟩
            exact hnb.tups (m3.stay c1).tups
          · rintro i v σ' H' hv ⟨x6, rfl, c1, c2, c3⟩
            have hi : i < n3 := by
              have := (List.getElem?_eq_some_iff.mp hv).1
              omega
            obtain ⟨dx, y, ho, hy⟩ := c2.obj
            obtain ⟨nx, hnx⟩ : ∃ nx, ns[i]? = some nx := ⟨_, List.getElem?_eq_getElem (by omega)⟩
            have hdr : ns.drop i = nx :: ns.drop (i + 1) := by
              have h0 : i < ns.length := by omega
              rw [List.drop_eq_getElem_cons h0]
              rw [List.getElem?_eq_getElem h0] at hnx
              rw [Option.some.inj hnx]
            have erev : (ns.drop i).reverse.map vint = (vint nx :: (ns.drop (i + 1)).map vint).reverse := by rw [hdr, List.map_reverse]; rfl
            rw [erev] at c3
            refine ⟨_, rfl, A.m, cM, dx, _, _, rfl, ho, TM.cl, TM.nFound, rfl, .inl ⟨rfl, _, SqL.of c3⟩, A.fl, _, _, rfl, rfl, c3, rev_last _ _, ?_⟩
            rw [dropLast_rev, ← List.map_reverse]
            have hd1 : Nums (vals ++ more) (ns.drop (i + 1)) (found.drop (i + 1)) := by
              have e9 : (found.take (i + 1)).length = i + 1 := by rw [List.length_take]; omega
              have := (show Nums (vals ++ more) ns (found.take (i + 1) ++ found.drop (i + 1)) by rw [List.take_append_drop]; exact h4).split
              rw [e9] at this
              exact this.2
            exact ⟨_, rfl, c1.upd (.inl (by simp)), c2.popF (n := nx) hd1, upd_same⟩
          · rintro σ' H' ⟨x6, rfl, c1, c2, c3⟩
            rw [hnbl] at c2 c3
            have st4 := m3.stay c1
            obtain ⟨dx, y, ho, hy⟩ := c2.obj
            refine ⟨_, rfl, A.m, dx, _, rfl, ho, rfl, _, rfl, c, _, _, _, rfl, rfl, hcT.tups st4.tups, at1, _, rfl, ?_⟩
            refine ⟨A, vals ++ more, p, ⟨todo, found.drop n3, steps⟩, ni, nb, g, fn, (ns.take n3).reverse, (found.take n3).reverse, rfl, c2, hni, hlk, hnb.tups st4.tups, htk.1.reverse, by rw [List.length_reverse, List.length_take]; omega, by simp only; omega, fun H5 more5 kp5 m5 hl5 => ?_⟩
            exact fin _ _ _ _ _ H5 more5 (((Kp.of_same S13).trans c1).trans kp5) m5 (by omega) (by simp only [List.length_cons]; omega) (by simp only [List.length_drop]; omega)
end
end K46
/-! Machine: __init__. -/
namespace K46
open PySem PySem.Spec PyProof.Rows L2

structure Slim (q : Prog) : Prop where
  nd : (q.map (·.name)).Nodup
  wide : ∀ fn ∈ q, fn.body.t.wide ≤ 100
  ps : ∀ fn ∈ q, fn.ps.Nodup
  le : ∀ fn ∈ q, fn.ps.length ≤ 12
/-- the functions, so far -/
def FnsG (K : PySem.W.Frag) (H : Hp) (vals : List T) (bad : List Addr) (fd : Addr) (q : Prog) : Prop := ∃ fs : List (Key × V), H fd = some (.dK fs) ∧ fs.length ≤ q.length ∧
  ∀ fn ∈ q, ∃ (i : Nat) (a pl : Addr) (b : Nat) (pns : List Nat), vals[i]? = some (.w fn.name) ∧ valV fs (.inl (i : Int)) = some (.ref a) ∧ SqT K H a [.ref pl, vint b] ∧ H pl = some (.lst (pns.map vint)) ∧ pl ∉ bad ∧ Nums vals pns (fn.ps.map T.w) ∧ vals[b]? = some fn.body.t
def spMInit (P : Program) (w : World) (K : PySem.W.Frag) (cS cM : Addr) : Sp := fun vs H Q _ => ∃ (x dx : Addr) (v : V) (b : Addr) (ys : List V) (g : Fn) (p : Prog) (ts : List T), vs = [.ref x, v, .ref b, .bl false] ∧ H x = some (.ins cM dx []) ∧ Rep K H (progT (g :: p)) v ∧ H b = some (.lst ys) ∧ Reps K H ts ys ∧
  ts.length = g.ps.length ∧ Slim (g :: p) ∧ (progT (g :: p)).size ≤ 60000 ∧ (∀ t ∈ ts, t.size ≤ 1000) ∧
  ∀ (H' : Hp) (A : MAd) (vals : List T), A.m = x → Kp [x] H H' → (∀ b ∈ A.L, b = x ∨ H b = none) → MAt P w K cS cM H' A vals (g :: p) (startM g ts) → vals.length ≤ 500000 → Q .non H'
abbrev sMInit : Stmt := inClass (top 34) 0
theorem sc_sMInit : FnScope ["self", "program", "inputs", "keeping", "function", "name", "parameters", "body", "main", "value"] ["self", "program", "inputs", "keeping"] (defScope sMInit) := ⟨rfl, rfl, rfl, by decide +kernel, rfl, by decide +kernel, by decide +kernel⟩
theorem FnsG.mono {K : PySem.W.Frag} {H H' : Hp} {vals : List T} {bad : List Addr} {fd : Addr} {q : Prog} (h : FnsG K H vals bad fd q) (kp : Kp bad H H') (y : Stay H H') (more : List T) : FnsG K H' (vals ++ more) bad fd q := by
  obtain ⟨fs, h1, h2, h3⟩ := h
  refine ⟨fs, y.dks _ _ h1, h2, fun fn hf => ?_⟩
  obtain ⟨i, a, pl, b, pns, q1, q2, q3, q4, q5, q6, q7⟩ := h3 fn hf
  exact ⟨i, a, pl, b, pns, get_more q1 _, q2, q3.tups y.tups, kp.keep _ _ q5 q4, q5, q6.mono _, get_more q7 _⟩
/-- while a machine is made -/
structure Ini (P : Program) (w : World) (K : PySem.W.Frag) (cS cM : Addr) (H0 H : Hp) (x dx : Addr) (fs : List (Str × V)) (s e nm sz dp : Addr) (vals : List T) : Prop where
  obj : H x = some (.ins cM dx fs)
  st : StAt P w K cS H s e nm sz dp vals
  kp : Kp [x] H0 H
  fresh : ∀ b ∈ s :: adS e nm sz dp, H0 b = none
  hx : H0 x ≠ none
section
variable {P : Program} {w : World} {K : PySem.W.Frag} {cS cM : Addr} {H0 H H' : Hp} {x dx : Addr} {fs fs' : List (Str × V)} {s e nm sz dp : Addr} {vals more : List T}
theorem Ini.ne (h : Ini P w K cS cM H0 H x dx fs s e nm sz dp vals) : x ∉ s :: adS e nm sz dp := fun q => h.hx (h.fresh x q)
theorem Ini.stay (h : Ini P w K cS cM H0 H x dx fs s e nm sz dp vals) (k : Kp (x :: adS e nm sz dp) H H') : Stay H H' := by
  refine ⟨k.tups fun b hb => ?_, fun b kvs q => k.keep b _ (fun hb => ?_) q⟩
  · rcases List.mem_cons.mp hb with rfl | hb
    · rw [h.obj]; exact ⟨(fun _ q => by cases q), (fun _ _ q => by cases q)⟩
    · exact h.st.noTup b hb
  · rcases List.mem_cons.mp hb with rfl | hb
    · rw [h.obj] at q; cases q
    · obtain ⟨us, h1, _⟩ := h.st.ents
      obtain ⟨xs, h2, _⟩ := h.st.nums
      have h2 := h2.at_
      simp only [adS, List.mem_cons, List.not_mem_nil, or_false] at hb
      rcases hb with rfl | rfl | rfl | rfl
      · rw [h1] at q; cases q
      · rw [h2] at q; cases q
      · rw [h.st.szs] at q; cases q
      · rw [h.st.dps] at q; cases q
theorem Ini.fld (h : Ini P w K cS cM H0 H x dx fs s e nm sz dp vals) : Ini P w K cS cM H0 (upd H x (.ins cM dx fs')) x dx fs' s e nm sz dp vals ∧ Stay H (upd H x (.ins cM dx fs')) ∧ Kp (x :: adS e nm sz dp) H (upd H x (.ins cM dx fs')) := by
  have k : Kp (x :: adS e nm sz dp) H (upd H x (.ins cM dx fs')) := Kp.refl.upd (.inl (by simp))
  have y := h.stay k
  exact ⟨⟨upd_same, h.st.keep (fun b hb => upd_ne fun q => h.ne (q ▸ hb)) y.tups, h.kp.upd (.inl (by simp)), h.fresh, h.hx⟩, y, k⟩
theorem Ini.same (h : Ini P w K cS cM H0 H x dx fs s e nm sz dp vals) (S : Same H H') : Ini P w K cS cM H0 H' x dx fs s e nm sz dp vals :=
  ⟨S _ _ h.obj, h.st.same S, h.kp.trans (Kp.of_same S), h.fresh, h.hx⟩
theorem Ini.nodk (h : Ini P w K cS cM H0 H x dx fs s e nm sz dp vals) {d : Addr} {kvs : List (Key × V)} (hd : H d = some (.dK kvs)) : d ∉ x :: s :: adS e nm sz dp := by
  intro hb
  obtain ⟨us, h1, _⟩ := h.st.ents
  obtain ⟨xs, h2, _⟩ := h.st.nums
  obtain ⟨dt, ho⟩ := h.st.obj
  have h2 := h2.at_
  simp only [adS, List.mem_cons, List.not_mem_nil, or_false] at hb
  rcases hb with rfl | rfl | rfl | rfl | rfl | rfl
  · rw [h.obj] at hd; cases hd
  · rw [ho] at hd; cases hd
  · rw [h1] at hd; cases hd
  · rw [h2] at hd; cases hd
  · rw [h.st.szs] at hd; cases hd
  · rw [h.st.dps] at hd; cases hd
theorem Ini.dict (h : Ini P w K cS cM H0 H x dx fs s e nm sz dp vals) {d : Addr} {kvs : List (Key × V)} {o : HO} (hd : H d = some (.dK kvs)) (h0 : H0 d = none) : Ini P w K cS cM H0 (upd H d o) x dx fs s e nm sz dp vals := by
  have hn := h.nodk hd
  refine ⟨by rw [upd_ne (fun q => hn (by rw [← q]; simp))]; exact h.obj, h.st.keep (fun b hb => upd_ne fun q => hn (by rw [← q]; exact List.mem_cons_of_mem _ hb)) (Tups.upd hd trivial), h.kp.upd (.inr h0), h.fresh, h.hx⟩
theorem Ini.store (h : Ini P w K cS cM H0 H x dx fs s e nm sz dp vals) (k : Kp (adS e nm sz dp) H H') (s' : StAt P w K cS H' s e nm sz dp (vals ++ more)) : Ini P w K cS cM H0 H' x dx fs s e nm sz dp (vals ++ more) ∧ Stay H H' ∧ Kp (x :: adS e nm sz dp) H H' := by
  have k2 : Kp (x :: adS e nm sz dp) H H' := k.mono fun b hb => List.mem_cons_of_mem _ hb
  refine ⟨⟨k.keep _ _ (fun q => h.ne (List.mem_cons_of_mem _ q)) h.obj, s', ⟨fun b u hb hu => ?_, fun b hb => h.kp.dom b (k.dom b hb)⟩, h.fresh, h.hx⟩, h.stay k2, k2⟩
  refine k.keep b u (fun q => ?_) (h.kp.keep b u hb hu)
  rw [h.fresh b (List.mem_cons_of_mem _ q)] at hu
  cases hu
end
section
variable {P : Program} {w : World} {K : PySem.W.Frag} {mg : Str → Option Value} {base : Heap} {cS cM aP : Addr}
theorem ok_mInit {f fS fP fI fB : Addr} {fd fdS fdP fdI fdB : FuncData} (B : Bl mg) (TS : TxtS K mg cS) (TM : TxtM K mg cM) (F : Fun K "__init__" "Machine.__init__" sMInit f fd)
    (MkS : Mk K cS fS) (gS : mg "Store" = some (.ref cS)) (bS : Binds K fdS ["self"] []) (GS : FnOk P w K mg base CX0 4 fS fdS ["self"] (spSInit P w K cS))
    (DP : MDf K cS "put" "Store.put" sPut ["self", "value"] fP fdP) (GP : FnOk P w K mg base CX0 5 fP fdP ["self", "value"] (spPut P w K cS))
    (DI : MDf K cS "items_of" "Store.items_of" sItemsOf ["self", "number"] fI fdI) (GI : FnOk P w K mg base CX0 5 fI fdI ["self", "number"] (spItemsOf P w K cS))
    (DB : MDf K cM "begin" "Machine.begin" sBegin ["self", "name", "numbers"] fB fdB) (GB : FnOk P w K mg base CX0 5 fB fdB ["self", "name", "numbers"] (spBegin P w K cS cM)) :
    FnOk P w K mg base CX0 6 f fd ["self", "program", "inputs", "keeping"] (spMInit P w K cS cM) := by
  refine F.ok sc_sMInit (fun vs H Q XE h => ?_) (fun cdv AA outer st H vs Q XE hr h => ?_)
  · obtain ⟨x, dx, v, b, ys, g, p, ts, rfl, _⟩ := h
    rfl
  · obtain ⟨x, dx, v, b, ys, g, p, ts, rfl, ho, hv, hb, hys, htl, hsl, hsz, htz, k⟩ := h
    have nd := sc_sMInit.nd
    have hu := hu_of hr
    refine ⟨_,
      (pss_cons (ps_fld (pv 0) (pe_make0 MkS GS hr (by rfl) gS bS .nil pass0) rfl)
      (pss_cons (ps_fld (pv 0) (pe_meth (pe_fld (pv 0) rfl) TS.cl DP.m GP hr DP.b .nil pass0 (pa_cons pe_str pa_nil)) rfl)
      (pss_cons (ps_fld (pv 0) pe_dnewK rfl)
      (pss_cons (ps_for PassesOwn.never rfl (pi_list (pe_meth (pe_fld (pv 0) rfl) TS.cl DI.m GI hr DI.b .nil pass0 (pa_cons (pe_meth (pe_fld (pv 0) rfl) TS.cl DP.m GP hr DP.b .nil pass0 (pa_cons (pv 1) pa_nil)) pa_nil))) (pg_name (i := 4) nd rfl (.inl rfl))
      (pss_cons (ps_asg (pe_meth (pe_fld (pv 0) rfl) TS.cl DI.m GI hr DI.b .nil pass0 (pa_cons (pv 4) pa_nil)) (pg_unl (by rfl) (pgs_cons (pg_name (i := 5) nd rfl (.inl rfl)) (pgs_cons (pg_name (i := 6) nd rfl (.inl rfl)) (pgs_cons (pg_name (i := 7) nd rfl (.inl rfl)) pgs_nil)))))
      (pss_one (ps_dput hu (pe_fld (pv 0) rfl) (pv 5) (pe_tup (pa_cons (pe_meth (pe_fld (pv 0) rfl) TS.cl DI.m GI hr DI.b .nil pass0 (pa_cons (pv 6) pa_nil)) (pa_cons (pv 7) pa_nil))) rfl))))
      (pss_cons (ps_fld (pv 0) (pv 3) rfl)
      (pss_cons (ps_fld (pv 0) pe_dnewK rfl)
      (pss_cons (ps_fld (pv 0) pe_non rfl)
      (pss_cons (ps_fld (pv 0) pe_int rfl)
      (pss_cons (ps_fld (pv 0) (pe_lst pa_nil) rfl)
      (pss_cons (ps_fld (pv 0) (pe_lst pa_nil) rfl)
      (pss_cons (ps_set (i := 8) nd rfl (.inl rfl) (pe_meth (pe_fld (pv 0) rfl) TS.cl DP.m GP hr DP.b .nil pass0 (pa_cons (pe_ix ix_tup (pe_ix ix_tup (pv 1) pe_int (fun _ _ => rfl)) pe_int (fun _ _ => rfl)) pa_nil)))
      (pss_one (ps_expr (pe_meth (pv 0) TM.cl DB.m GB hr DB.b .nil pass0 (pa_cons (pv 8) (pa_cons (pe_callTy call_tupOf (by rfl) B.tuple PyProof.Rows.boot_tuple (pa_cons (pe_lc (te := tMeth cS "put" (spPut P w K cS) [] E0 (tFld K (tVar 0) "store") (tCons (tVar 9) tNil)) (own := [("value", 9)]) (g := gName 9) (tt := tYes) (by rfl) nd (pi_list (pv 2)) (blkOk_by (own := [("value", 9)]) (N := ["self", "program", "inputs", "keeping", "function", "name", "parameters", "body", "main", "value"]) (sc := defScope sMInit) (by decide +kernel)) (fun _ _ _ _ _ => by exact (pg_name (i := 9) nd rfl (Or.inl rfl))) (fun _ _ _ _ _ => by exact pts_nil) (fun _ _ _ _ _ => by exact (pe_meth (pe_fld (pv 0) rfl) TS.cl DP.m GP hr DP.b .nil pass0 (pa_cons (pv 9) pa_nil)))) pa_nil)) pa_nil))))))))))))))))
      , ?_⟩
    have hs : sizeLine = 16777216 := rfl
    have hx0 : H x ≠ none := by rw [ho]; exact fun q => nomatch q
    refine fun s dxs hs0 hdx0 hne => ⟨s, dxs, rfl, upd_same, fun H1 e nm sz dp kp1 st1 he hnm hsz hdp => ⟨rfl, ?_⟩⟩
    have S0 : Same H (upd (upd H dxs (.own s)) s (.ins cS dxs [])) := (same_upd hdx0).upd hs0
    have kp01 : Kp [x] H H1 := (((Kp.of_same S0).trans kp1).forget hs0).mono fun b hb => nomatch hb
    have i1 : Ini P w K cS cM H H1 x dx [] s e nm sz dp [nil] := by
      refine ⟨kp1.keep x _ (fun q => hx0 (by rw [List.mem_singleton.mp q]; exact hs0)) (S0 _ _ ho), st1, kp01, fun b hb => ?_, hx0⟩
      simp only [adS, List.mem_cons, List.not_mem_nil, or_false] at hb
      rcases hb with rfl | rfl | rfl | rfl | rfl
      · exact hs0
      · exact S0.free he
      · exact S0.free hnm
      · exact S0.free hsz
      · exact S0.free hdp
    clear kp1 st1 he hnm hsz hdp kp01 S0
    refine ⟨_, rfl, x, cM, dx, _, rfl, i1.obj, TM.cl, TM.nStore, (by show 0 < 1000; decide), ?_⟩
    obtain ⟨i2, _, _⟩ := i1.fld (fs' := [("store", .ref s)])
    have e2 : upd H1 x (.ins cM dx (putF "store" (.ref s) [])) = upd H1 x (.ins cM dx [("store", .ref s)]) := rfl
    rw [e2]
    clear i1 e2
    generalize upd H1 x (.ins cM dx [("store", .ref s)]) = H2 at *
    have ho2 := i2.obj
    obtain ⟨dxt, hos2⟩ := i2.st.obj
    refine ⟨_, rfl, x, cM, dx, _, _, rfl, ho2, TM.cl, TM.nStore, rfl, s, dxt, _, rfl, hos2, rfl, s, e, nm, sz, dp, [nil], .str "yes", yes, rfl, i2.st, .w, (by decide), (by decide), fun H3 m3 y kp3 st3 hl3 hy => ?_⟩
    have i3 := (i2.store kp3 st3).1
    have hv3 : ([nil] ++ m3).length ≤ 4 := by
      have : yes.size = 1 := by simp [T.size]
      rw [List.length_append, List.length_singleton]; omega
    clear st3 kp3 hos2 ho2 i2 hl3
    generalize [nil] ++ m3 = v3 at *
    refine ⟨_, rfl, x, cM, dx, _, rfl, i3.obj, TM.cl, TM.nYes, (by show 1 < 1000; decide), ?_⟩
    obtain ⟨i4, _, _⟩ := i3.fld (fs' := [("store", .ref s), ("yes", vint y)])
    have e4 : upd H3 x (.ins cM dx (putF "yes" (vint y) [("store", .ref s)])) = upd H3 x (.ins cM dx [("store", .ref s), ("yes", vint y)]) := rfl
    rw [e4]
    clear i3 e4
    generalize upd H3 x (.ins cM dx [("store", .ref s), ("yes", vint y)]) = H4 at *
    refine fun fdA hfd => ?_
    -- functions = {}
    have hfd0 : H fdA = none := i4.kp.free hfd
    have i5 := i4.same (same_upd (o := .dK []) hfd)
    have hfd5 : upd H4 fdA (.dK []) fdA = some (.dK []) := upd_same
    have nfx : fdA ≠ x := fun q => hx0 (by rw [← q]; exact hfd0)
    clear i4 hfd
    generalize upd H4 fdA (.dK []) = H5 at *
    refine ⟨_, rfl, x, cM, dx, _, rfl, i5.obj, TM.cl, TM.nFuns, (by show 2 < 1000; decide), ?_⟩
    obtain ⟨i6, y6, _⟩ := i5.fld (fs' := [("store", .ref s), ("yes", vint y), ("functions", .ref fdA)])
    have hfd6 := y6.dks _ _ hfd5
    have e6 : upd H5 x (.ins cM dx (putF "functions" (.ref fdA) [("store", .ref s), ("yes", vint y)])) = upd H5 x (.ins cM dx [("store", .ref s), ("yes", vint y), ("functions", .ref fdA)]) := rfl
    rw [e6]
    clear i5 hfd5 y6 e6
    generalize upd H5 x (.ins cM dx [("store", .ref s), ("yes", vint y), ("functions", .ref fdA)]) = H6 at *
    -- the program is put
    have ho6 := i6.obj
    obtain ⟨dxt6, hos6⟩ := i6.st.obj
    have hTk : ∀ H', Kp [x] H H' → Tups H H' := fun H' q => q.tups fun b hb => by
      rw [List.mem_singleton.mp hb, ho]; exact ⟨(fun _ q => by cases q), (fun _ _ q => by cases q)⟩
    refine ⟨_, rfl, x, cM, dx, _, _, rfl, ho6, TM.cl, TM.nStore, rfl, s, dxt6, _, rfl, hos6, rfl, _, rfl, x, cM, dx, _, _, rfl, ho6, TM.cl, TM.nStore, rfl, s, dxt6, _, rfl, hos6, rfl, _, rfl, s, e, nm, sz, dp, v3, v, progT (g :: p), rfl, i6.st, hv.tups (hTk _ i6.kp), by omega, by omega, fun H7 m7 np kp7 st7 hl7 hnp => ?_⟩
    obtain ⟨i7, y7, k7⟩ := i6.store kp7 st7
    have hv7 : (v3 ++ m7).length ≤ 180004 := by rw [List.length_append]; omega
    have hy7 := get_more hy m7
    have hfd7 := y7.dks _ _ hfd6
    clear i6 hfd6 ho6 hos6 kp7 st7 hl7 y7 k7 hy
    generalize v3 ++ m7 = v7 at *
    have hpl : (g :: p).length ≤ 60000 := by
      have h1 := length_sizeL ((g :: p).map Fn.t)
      have h2 : (progT (g :: p)).size = sizeL ((g :: p).map Fn.t) := by unfold progT; simp [T.size]
      rw [List.length_map] at h1
      omega
    refine ⟨s, e, nm, sz, dp, v7, np, (g :: p).map Fn.t, rfl, i7.st, hnp, by rw [List.length_map]; omega, fun H8 q ns S8 hq0 hq hns => ?_⟩
    have i8 := i7.same S8
    have hfd8 := S8 _ _ hfd7
    have hqx : q ≠ x := fun z => by rw [z, i7.obj] at hq0; cases hq0
    clear i7 hfd7
    have hnl := hns.length
    rw [List.length_map] at hnl
    refine ⟨q, rfl, ⟨_, SqL.of hq⟩, ?_⟩
    refine for_list (xs := ns.map vint) (fun j σ' H' => ∃ x4 x5 x6 x7 : Option V, σ' = [some (.ref x), some v, some (.ref b), some (.bl false), x4, x5, x6, x7, none, none] ∧ Ini P w K cS cM H H' x dx [("store", .ref s), ("yes", vint y), ("functions", .ref fdA)] s e nm sz dp v7 ∧ H' q = some (.lst (ns.map vint)) ∧ FnsG K H' v7 (x :: adS e nm sz dp) fdA ((g :: p).take j)) ?_ ?_ ?_ ?_
    · exact ⟨_, _, _, _, rfl, i8, hq, [], hfd8, Nat.zero_le _, fun _ h => nomatch h⟩
    · rintro j σ' H' _ ⟨x4, x5, x6, x7, rfl, _, c, _⟩
      exact SqL.of c
    · rintro j z σ' H' hz ⟨x4, x5, x6, x7, rfl, c1, c2, c3⟩
      rw [List.getElem?_map, Option.map_eq_some_iff] at hz
      obtain ⟨nj, hnj, rfl⟩ := hz
      obtain ⟨tj, htj, hvj⟩ := hns.get' hnj
      rw [List.getElem?_map, Option.map_eq_some_iff] at htj
      obtain ⟨fn, hfn, rfl⟩ := htj
      have hfm := List.mem_of_getElem? hfn
      have ho9 := c1.obj
      obtain ⟨dxt9, hos9⟩ := c1.st.obj
      refine ⟨_, rfl, x, cM, dx, _, _, rfl, ho9, TM.cl, TM.nStore, rfl, s, dxt9, _, rfl, hos9, rfl, _, rfl, s, e, nm, sz, dp, v7, nj, _, rfl, c1.st, hvj, (by show 3 ≤ 1000000; decide), fun H9 q9 ns9 S9 hq90 hq9 hns9 => ?_⟩
      obtain ⟨n1, ms, rfl, a1, hms⟩ := hns9.cons_eq
      obtain ⟨n2, ms2, rfl, a2, hms2⟩ := hms.cons_eq
      obtain ⟨n3, ms3, rfl, a3, hms3⟩ := hms2.cons_eq
      have := hms3.nil_eq
      subst this
      refine ⟨q9, _, rfl, SqL.of hq9, rfl, _, _, rfl, _, _, rfl, _, _, rfl, rfl, ?_⟩
      have i9 := c1.same S9
      have c29 := S9 _ _ c2
      have c39 : FnsG K H9 v7 (x :: adS e nm sz dp) fdA ((g :: p).take j) := by
        have := c3.mono (Kp.of_same S9) (Stay.of_same S9) []
        rwa [List.append_nil] at this
      clear c1 c2 c3 ho9 hos9
      have ho9 := i9.obj
      obtain ⟨dxt9, hos9⟩ := i9.st.obj
      have hle12 := hsl.le fn hfm
      refine ⟨_, rfl, x, cM, dx, _, _, rfl, ho9, TM.cl, TM.nStore, rfl, s, dxt9, _, rfl, hos9, rfl, _, rfl, s, e, nm, sz, dp, v7, n2, _, rfl, i9.st, a2, (by rw [List.length_map]; omega), fun H10 pl pns S10 hpl0 hplv hpns => ?_⟩
      have i10 := i9.same S10
      have c210 := S10 _ _ c29
      have c310 : FnsG K H10 v7 (x :: adS e nm sz dp) fdA ((g :: p).take j) := by
        have := c39.mono (Kp.of_same S10) (Stay.of_same S10) []
        rwa [List.append_nil] at this
      have hplb : pl ∉ x :: adS e nm sz dp := fun z => by
        rcases List.mem_cons.mp z with z | z
        · rw [z, i9.obj] at hpl0; cases hpl0
        · exact i9.st.there (List.mem_cons_of_mem _ z) hpl0
      clear i9 c29 c39 ho9 hos9
      refine ⟨_, rfl, (by show 2 ≤ sizeLine; decide), fun a ha => ?_⟩
      have Sa := same_upd (o := .tup [.ref pl, vint n3]) ha
      have haT : SqT K (upd H10 a (.tup [.ref pl, vint n3])) a [.ref pl, vint n3] := SqT.of upd_same
      have i11 := i10.same Sa
      have c211 := Sa _ _ c210
      have hpl11 := Sa _ _ hplv
      obtain ⟨fs, k1, k2, k3⟩ : FnsG K (upd H10 a (.tup [.ref pl, vint n3])) v7 (x :: adS e nm sz dp) fdA ((g :: p).take j) := by
        have := c310.mono (Kp.of_same Sa) (Stay.of_same Sa) []
        rwa [List.append_nil] at this
      clear i10 c210 c310 Sa hplv ha
      generalize upd H10 a (.tup [.ref pl, vint n3]) = H11 at *
      have ho11 := i11.obj
      have hjl := (List.getElem?_eq_some_iff.mp hfn).1
      rw [List.length_take] at k2
      refine ⟨_, rfl, x, cM, dx, _, _, rfl, ho11, TM.cl, TM.nFuns, rfl, _, rfl, fdA, _, rfl, DPut.k (k := .inl (n1 : Int)) k1 (by omega), ?_⟩
      have i12 := i11.dict (o := .dK (putK fs (.inl (n1 : Int)) (.ref a))) k1 hfd0
      have tt : Tups H11 (upd H11 fdA (.dK (putK fs (.inl (n1 : Int)) (.ref a)))) := Tups.upd k1 trivial
      have nql : ∀ {c : Addr} {xs : List V}, H11 c = some (.lst xs) → c ≠ fdA := fun {c} {xs} hc z => by rw [z, k1] at hc; cases hc
      refine ⟨_, _, _, _, rfl, i12, by rw [upd_ne (nql c211)]; exact c211, _, upd_same, ?_, fun fn' hf' => ?_⟩
      · rw [List.length_take]
        have := length_putK fs (.inl (n1 : Int)) (V.ref a)
        omega
      · rw [List.take_succ, hfn] at hf'
        rcases List.mem_append.mp hf' with hf' | hf'
        · obtain ⟨i', a', pl', b', pns', q1, q2, q3, q4, q5, q6, q7⟩ := k3 fn' hf'
          refine ⟨i', a', pl', b', pns', q1, ?_, q3.tups tt, by rw [upd_ne (nql q4)]; exact q4, q5, q6, q7⟩
          rw [valV_put, if_neg, q2]
          intro z
          have z := Sum.inl.inj z
          have z : i' = n1 := by omega
          rw [z, a1] at q1
          have q1 := T.w.inj (Option.some.inj q1)
          obtain ⟨j', hj', e'⟩ := List.mem_iff_getElem.mp hf'
          rw [List.length_take] at hj'
          rw [List.getElem_take] at e'
          obtain ⟨b1, b2⟩ := List.getElem?_eq_some_iff.mp hfn
          have := List.pairwise_iff_getElem.mp hsl.nd j' j (by rw [List.length_map]; omega) (by rw [List.length_map]; omega) (by omega)
          rw [List.getElem_map, List.getElem_map, e', b2] at this
          exact this q1.symm
        · have := List.mem_singleton.mp hf'
          subst this
          exact ⟨n1, a, pl, n3, pns, a1, by rw [valV_put, if_pos rfl], haT.tups tt, by rw [upd_ne (nql hpl11)]; exact hpl11, hplb, hpns, a3⟩
    · rintro σ' J0 ⟨x4, x5, x6, x7, rfl, d0, c2, g0⟩
      rw [List.length_map, hnl, List.take_length] at g0
      clear c2
      refine ⟨_, rfl, _, rfl, x, cM, dx, _, rfl, d0.obj, TM.cl, TM.nKeep, (by show 3 < 1000; decide), ?_⟩
      have e0 : upd J0 x (.ins cM dx (putF "keeping" (.bl false) [("store", .ref s), ("yes", vint y), ("functions", .ref fdA)])) = upd J0 x (.ins cM dx [("store", .ref s), ("yes", vint y), ("functions", .ref fdA), ("keeping", (.bl false))]) := rfl
      rw [e0]
      obtain ⟨d1, y0, k0⟩ := d0.fld (fs' := [("store", .ref s), ("yes", vint y), ("functions", .ref fdA), ("keeping", (.bl false))])
      have g1 : FnsG K (upd J0 x (.ins cM dx [("store", .ref s), ("yes", vint y), ("functions", .ref fdA), ("keeping", (.bl false))])) v7 (x :: adS e nm sz dp) fdA (g :: p) := by
        have := g0.mono (k0.mono (fun z hz => hz)) y0 []
        rwa [List.append_nil] at this
      clear d0 g0 e0 k0 y0
      generalize upd J0 x (.ins cM dx [("store", .ref s), ("yes", vint y), ("functions", .ref fdA), ("keeping", (.bl false))]) = J1 at *
      refine fun kpA hkp => ?_
      have hkp0 : H kpA = none := d1.kp.free hkp
      have nkpAx : kpA ≠ x := fun q => hx0 (by rw [← q]; exact hkp0)
      have Sk1 := same_upd (o := (.dK [])) hkp
      have d2 := d1.same Sk1
      have g2 : FnsG K (upd J1 kpA (.dK [])) v7 (x :: adS e nm sz dp) fdA (g :: p) := by
        have := g1.mono (Kp.of_same Sk1) (Stay.of_same Sk1) []
        rwa [List.append_nil] at this
      clear d1 g1 Sk1 hkp
      generalize upd J1 kpA (.dK []) = J2 at *
      refine ⟨_, rfl, x, cM, dx, _, rfl, d2.obj, TM.cl, TM.nKept, (by show 4 < 1000; decide), ?_⟩
      have e2 : upd J2 x (.ins cM dx (putF "kept" (.ref kpA) [("store", .ref s), ("yes", vint y), ("functions", .ref fdA), ("keeping", (.bl false))])) = upd J2 x (.ins cM dx [("store", .ref s), ("yes", vint y), ("functions", .ref fdA), ("keeping", (.bl false)), ("kept", (.ref kpA))]) := rfl
      rw [e2]
      obtain ⟨d3, y2, k2⟩ := d2.fld (fs' := [("store", .ref s), ("yes", vint y), ("functions", .ref fdA), ("keeping", (.bl false)), ("kept", (.ref kpA))])
      have g3 : FnsG K (upd J2 x (.ins cM dx [("store", .ref s), ("yes", vint y), ("functions", .ref fdA), ("keeping", (.bl false)), ("kept", (.ref kpA))])) v7 (x :: adS e nm sz dp) fdA (g :: p) := by
        have := g2.mono (k2.mono (fun z hz => hz)) y2 []
        rwa [List.append_nil] at this
      clear d2 g2 e2 k2 y2
      generalize upd J2 x (.ins cM dx [("store", .ref s), ("yes", vint y), ("functions", .ref fdA), ("keeping", (.bl false)), ("kept", (.ref kpA))]) = J3 at *
      refine ⟨_, rfl, x, cM, dx, _, rfl, d3.obj, TM.cl, TM.nPair, (by show 5 < 1000; decide), ?_⟩
      have e3 : upd J3 x (.ins cM dx (putF "pair" .non [("store", .ref s), ("yes", vint y), ("functions", .ref fdA), ("keeping", (.bl false)), ("kept", (.ref kpA))])) = upd J3 x (.ins cM dx [("store", .ref s), ("yes", vint y), ("functions", .ref fdA), ("keeping", (.bl false)), ("kept", (.ref kpA)), ("pair", .non)]) := rfl
      rw [e3]
      obtain ⟨d4, y3, k3⟩ := d3.fld (fs' := [("store", .ref s), ("yes", vint y), ("functions", .ref fdA), ("keeping", (.bl false)), ("kept", (.ref kpA)), ("pair", .non)])
      have g4 : FnsG K (upd J3 x (.ins cM dx [("store", .ref s), ("yes", vint y), ("functions", .ref fdA), ("keeping", (.bl false)), ("kept", (.ref kpA)), ("pair", .non)])) v7 (x :: adS e nm sz dp) fdA (g :: p) := by
        have := g3.mono (k3.mono (fun z hz => hz)) y3 []
        rwa [List.append_nil] at this
      clear d3 g3 e3 k3 y3
      generalize upd J3 x (.ins cM dx [("store", .ref s), ("yes", vint y), ("functions", .ref fdA), ("keeping", (.bl false)), ("kept", (.ref kpA)), ("pair", .non)]) = J4 at *
      refine ⟨_, rfl, x, cM, dx, _, rfl, d4.obj, TM.cl, TM.nSteps, (by show 6 < 1000; decide), ?_⟩
      have e4 : upd J4 x (.ins cM dx (putF "steps" (.int 0) [("store", .ref s), ("yes", vint y), ("functions", .ref fdA), ("keeping", (.bl false)), ("kept", (.ref kpA)), ("pair", .non)])) = upd J4 x (.ins cM dx [("store", .ref s), ("yes", vint y), ("functions", .ref fdA), ("keeping", (.bl false)), ("kept", (.ref kpA)), ("pair", .non), ("steps", (.int 0))]) := rfl
      rw [e4]
      obtain ⟨d5, y4, k4⟩ := d4.fld (fs' := [("store", .ref s), ("yes", vint y), ("functions", .ref fdA), ("keeping", (.bl false)), ("kept", (.ref kpA)), ("pair", .non), ("steps", (.int 0))])
      have g5 : FnsG K (upd J4 x (.ins cM dx [("store", .ref s), ("yes", vint y), ("functions", .ref fdA), ("keeping", (.bl false)), ("kept", (.ref kpA)), ("pair", .non), ("steps", (.int 0))])) v7 (x :: adS e nm sz dp) fdA (g :: p) := by
        have := g4.mono (k4.mono (fun z hz => hz)) y4 []
        rwa [List.append_nil] at this
      clear d4 g4 e4 k4 y4
      generalize upd J4 x (.ins cM dx [("store", .ref s), ("yes", vint y), ("functions", .ref fdA), ("keeping", (.bl false)), ("kept", (.ref kpA)), ("pair", .non), ("steps", (.int 0))]) = J5 at *
      refine ⟨(by show 0 ≤ sizeLine; decide), fun fl hfl => ?_⟩
      have hfl0 : H fl = none := d5.kp.free hfl
      have nflx : fl ≠ x := fun q => hx0 (by rw [← q]; exact hfl0)
      have Sk5 := same_upd (o := (.lst [])) hfl
      have d6 := d5.same Sk5
      have g6 : FnsG K (upd J5 fl (.lst [])) v7 (x :: adS e nm sz dp) fdA (g :: p) := by
        have := g5.mono (Kp.of_same Sk5) (Stay.of_same Sk5) []
        rwa [List.append_nil] at this
      have nfls : fl ∉ s :: adS e nm sz dp := fun z => d5.st.there z hfl
      have w6 : FnsG K (upd J5 fl (.lst [])) v7 (fl :: x :: adS e nm sz dp) fdA (g :: p) := by
        obtain ⟨fs, k1, k2, k3⟩ := g5
        refine ⟨fs, Sk5 _ _ k1, k2, fun fn hf => ?_⟩
        obtain ⟨i, a, pl, b', pns, q1, q2, q3, q4, q5, q6, q7⟩ := k3 fn hf
        exact ⟨i, a, pl, b', pns, q1, q2, q3.same Sk5, Sk5 _ _ q4, fun z => (List.mem_cons.mp z).elim (fun z => by rw [z, hfl] at q4; cases q4) q5, q6, q7⟩
      have f6 : (upd J5 fl (.lst [])) fl = some (.lst []) := upd_same
      clear d5 g5 g6 Sk5 hfl
      generalize upd J5 fl (.lst []) = J6 at *
      have g6 := w6
      clear w6
      refine ⟨_, rfl, x, cM, dx, _, rfl, d6.obj, TM.cl, TM.nFound, (by show 7 < 1000; decide), ?_⟩
      have e6 : upd J6 x (.ins cM dx (putF "found" (.ref fl) [("store", .ref s), ("yes", vint y), ("functions", .ref fdA), ("keeping", (.bl false)), ("kept", (.ref kpA)), ("pair", .non), ("steps", (.int 0))])) = upd J6 x (.ins cM dx [("store", .ref s), ("yes", vint y), ("functions", .ref fdA), ("keeping", (.bl false)), ("kept", (.ref kpA)), ("pair", .non), ("steps", (.int 0)), ("found", (.ref fl))]) := rfl
      rw [e6]
      obtain ⟨d7, y6, k6⟩ := d6.fld (fs' := [("store", .ref s), ("yes", vint y), ("functions", .ref fdA), ("keeping", (.bl false)), ("kept", (.ref kpA)), ("pair", .non), ("steps", (.int 0)), ("found", (.ref fl))])
      have g7 : FnsG K (upd J6 x (.ins cM dx [("store", .ref s), ("yes", vint y), ("functions", .ref fdA), ("keeping", (.bl false)), ("kept", (.ref kpA)), ("pair", .non), ("steps", (.int 0)), ("found", (.ref fl))])) v7 (fl :: x :: adS e nm sz dp) fdA (g :: p) := by
        have := g6.mono (k6.mono (fun z hz => List.mem_cons_of_mem _ (hz))) y6 []
        rwa [List.append_nil] at this
      have f7 : (upd J6 x (.ins cM dx [("store", .ref s), ("yes", vint y), ("functions", .ref fdA), ("keeping", (.bl false)), ("kept", (.ref kpA)), ("pair", .non), ("steps", (.int 0)), ("found", (.ref fl))])) fl = some (.lst []) := by rw [upd_ne (nflx)]; exact f6
      clear d6 g6 e6 k6 y6 f6
      generalize upd J6 x (.ins cM dx [("store", .ref s), ("yes", vint y), ("functions", .ref fdA), ("keeping", (.bl false)), ("kept", (.ref kpA)), ("pair", .non), ("steps", (.int 0)), ("found", (.ref fl))]) = J7 at *
      refine ⟨(by show 0 ≤ sizeLine; decide), fun tl htl0 => ?_⟩
      have htl00 : H tl = none := d7.kp.free htl0
      have ntlx : tl ≠ x := fun q => hx0 (by rw [← q]; exact htl00)
      have Sk7 := same_upd (o := (.lst [])) htl0
      have d8 := d7.same Sk7
      have g8 : FnsG K (upd J7 tl (.lst [])) v7 (fl :: x :: adS e nm sz dp) fdA (g :: p) := by
        have := g7.mono (Kp.of_same Sk7) (Stay.of_same Sk7) []
        rwa [List.append_nil] at this
      have f8 : (upd J7 tl (.lst [])) fl = some (.lst []) := Sk7 _ _ f7
      have ntls : tl ∉ s :: adS e nm sz dp := fun z => d7.st.there z htl0
      have w8 : FnsG K (upd J7 tl (.lst [])) v7 (tl :: fl :: x :: adS e nm sz dp) fdA (g :: p) := by
        obtain ⟨fs, k1, k2, k3⟩ := g7
        refine ⟨fs, Sk7 _ _ k1, k2, fun fn hf => ?_⟩
        obtain ⟨i, a, pl, b', pns, q1, q2, q3, q4, q5, q6, q7⟩ := k3 fn hf
        exact ⟨i, a, pl, b', pns, q1, q2, q3.same Sk7, Sk7 _ _ q4, fun z => (List.mem_cons.mp z).elim (fun z => by rw [z, htl0] at q4; cases q4) q5, q6, q7⟩
      have l8 : (upd J7 tl (.lst [])) tl = some (.lst []) := upd_same
      have nnfltl : fl ≠ tl := ne_of_none f7 htl0
      clear d7 g7 g8 Sk7 htl0 f7
      generalize upd J7 tl (.lst []) = J8 at *
      have g8 := w8
      clear w8
      refine ⟨_, rfl, x, cM, dx, _, rfl, d8.obj, TM.cl, TM.nTodo, (by show 8 < 1000; decide), ?_⟩
      have e8 : upd J8 x (.ins cM dx (putF "todo" (.ref tl) [("store", .ref s), ("yes", vint y), ("functions", .ref fdA), ("keeping", (.bl false)), ("kept", (.ref kpA)), ("pair", .non), ("steps", (.int 0)), ("found", (.ref fl))])) = upd J8 x (.ins cM dx [("store", .ref s), ("yes", vint y), ("functions", .ref fdA), ("keeping", (.bl false)), ("kept", (.ref kpA)), ("pair", .non), ("steps", (.int 0)), ("found", (.ref fl)), ("todo", (.ref tl))]) := rfl
      rw [e8]
      obtain ⟨d9, y8, k8⟩ := d8.fld (fs' := [("store", .ref s), ("yes", vint y), ("functions", .ref fdA), ("keeping", (.bl false)), ("kept", (.ref kpA)), ("pair", .non), ("steps", (.int 0)), ("found", (.ref fl)), ("todo", (.ref tl))])
      have g9 : FnsG K (upd J8 x (.ins cM dx [("store", .ref s), ("yes", vint y), ("functions", .ref fdA), ("keeping", (.bl false)), ("kept", (.ref kpA)), ("pair", .non), ("steps", (.int 0)), ("found", (.ref fl)), ("todo", (.ref tl))])) v7 (tl :: fl :: x :: adS e nm sz dp) fdA (g :: p) := by
        have := g8.mono (k8.mono (fun z hz => List.mem_cons_of_mem _ (List.mem_cons_of_mem _ (hz)))) y8 []
        rwa [List.append_nil] at this
      have f9 : (upd J8 x (.ins cM dx [("store", .ref s), ("yes", vint y), ("functions", .ref fdA), ("keeping", (.bl false)), ("kept", (.ref kpA)), ("pair", .non), ("steps", (.int 0)), ("found", (.ref fl)), ("todo", (.ref tl))])) fl = some (.lst []) := by rw [upd_ne (nflx)]; exact f8
      have l9 : (upd J8 x (.ins cM dx [("store", .ref s), ("yes", vint y), ("functions", .ref fdA), ("keeping", (.bl false)), ("kept", (.ref kpA)), ("pair", .non), ("steps", (.int 0)), ("found", (.ref fl)), ("todo", (.ref tl))])) tl = some (.lst []) := by rw [upd_ne (ntlx)]; exact l8
      clear d8 g8 e8 k8 y8 f8 l8
      generalize upd J8 x (.ins cM dx [("store", .ref s), ("yes", vint y), ("functions", .ref fdA), ("keeping", (.bl false)), ("kept", (.ref kpA)), ("pair", .non), ("steps", (.int 0)), ("found", (.ref fl)), ("todo", (.ref tl))]) = J9 at *
      have hg0 : g ∈ g :: p := List.mem_cons_self
      generalize hA : (⟨x, s, e, nm, sz, dp, fdA, kpA, fl, tl⟩ : MAd) = A
      have am : A.m = x := by rw [← hA]
      have as : A.s = s := by rw [← hA]
      have aads : adS A.e A.nm A.sz A.dp = adS e nm sz dp := by rw [← hA]
      have aL : ∀ z ∈ A.L, z = x ∨ H z = none := by
        intro z hz
        rw [← hA] at hz
        simp only [MAd.L, List.mem_cons, List.not_mem_nil, or_false] at hz
        rcases hz with rfl | rfl | rfl | rfl | rfl | rfl | rfl
        · exact .inl rfl
        · exact .inr hfl0
        · exact .inr htl00
        · exact .inr (d9.fresh _ (by simp [adS]))
        · exact .inr (d9.fresh _ (by simp [adS]))
        · exact .inr (d9.fresh _ (by simp [adS]))
        · exact .inr (d9.fresh _ (by simp [adS]))
      have kpL : ∀ {Ha Hb : Hp}, Kp [x] H Ha → Kp A.L Ha Hb → Kp [x] H Hb := fun {Ha Hb} k1 k2 => ⟨fun z u hz hu => k2.keep z u (fun q => by
        rcases aL z q with rfl | e0
        · exact hz (by simp)
        · rw [e0] at hu; cases hu) (k1.keep z u hz hu), fun z hz => k1.dom z (k2.dom z hz)⟩
      have mat9 : MAt P w K cS cM J9 A v7 (g :: p) ⟨[], [], 0⟩ := by
        obtain ⟨fs, k1, k2, k3⟩ := g9
        subst hA
        refine ⟨⟨dx, y, d9.obj, hy7⟩, d9.st, ⟨fs, k1, fun g' fn hg' => ?_⟩, ⟨[], l9, .nil⟩, ⟨[], f9, .nil⟩, nnfltl, fun z => nfls (List.mem_cons_of_mem _ z), fun z => ntls (List.mem_cons_of_mem _ z)⟩
        obtain ⟨hm, rfl⟩ := look_mem hg'
        obtain ⟨i, a, pl, b', pns, q1, q2, q3, q4, q5, q6, q7⟩ := k3 fn hm
        refine ⟨i, q1, a, pl, b', pns, q2, q3, q4, fun z => q5 ?_, q6, q7, hsl.wide fn hm, hsl.ps fn hm, hsl.le fn hm⟩
        simp only [MAd.L, List.mem_cons, List.not_mem_nil, or_false, adS] at z ⊢
        rcases z with h | h | h | h | h | h | h <;> simp [h]
      have kp9 := d9.kp
      have hv9 := hv.tups (hTk _ kp9)
      obtain ⟨va, vxs, rfl, hvT, hvx⟩ := (show Rep K J9 (.l (g.t :: p.map Fn.t)) v from hv9).l_eq
      obtain ⟨v0, vr, rfl, hv0, hvr⟩ := hvx.cons_eq
      obtain ⟨v0a, v0s, rfl, hv0T, hv0x⟩ := hv0.l_eq
      obtain ⟨v00, v0r, rfl, hv00, hv0r⟩ := hv0x.cons_eq
      have := hv00.w_eq
      subst this
      have ho9 := d9.obj
      obtain ⟨dxt9, hos9⟩ := d9.st.obj
      refine ⟨_, rfl, x, cM, dx, _, _, rfl, ho9, TM.cl, TM.nStore, rfl, s, dxt9, _, rfl, hos9, rfl, _, rfl, va, _, _, _, rfl, rfl, hvT, at0, v0a, _, _, _, rfl, rfl, hv0T, at0, s, e, nm, sz, dp, v7, .str g.name, .w g.name, rfl, d9.st, .w, (by simp [T.size]), (by simp [T.size]; omega), fun J10 m10 nmn kp10 st10 hl10 hn10 => ?_⟩
      have mat10 : MAt P w K cS cM J10 A (v7 ++ m10) (g :: p) ⟨[], [], 0⟩ := mat9.store (by rw [aads]; exact kp10) (by rw [← hA]; exact st10)
      have kpx10 : Kp [x] H J10 := kpL kp9 (kp10.mono fun z hz => ads_L (by rw [aads]; exact hz))
      have hv10 : (v7 ++ m10).length ≤ 180010 := by
        have : (T.w g.name).size = 1 := by simp [T.size]
        rw [List.length_append]; omega
      clear mat9 kp9 hv9 hvT hv0 hv0T d9 g9 f9 l9 ho9 hos9 st10 kp10 hl10
      generalize v7 ++ m10 = v10 at *
      obtain ⟨dx1, y1, ho10, hy10⟩ := mat10.obj
      rw [am] at ho10
      refine ⟨_, rfl, x, dx1, _, rfl, ho10, rfl, _, rfl, _, rfl, b, rfl, ⟨ys, SqL.of (kpx10.keep b _ (fun q => by rw [List.mem_singleton.mp q, ho] at hb; cases hb) hb)⟩, fun D hD => ?_⟩
      have hysl := hys.length
      have hg12 : g.ps.length ≤ 12 := hsl.le g hg0
      have st10 : StAt P w K cS J10 s e nm sz dp v10 := by have := mat10.st; rw [← hA] at this; exact this
      have kpX : ∀ {H' : Hp}, Kp (adS e nm sz dp) J10 H' → Kp [x] H H' := fun {H'} c => kpL kpx10 (c.mono fun z hz => ads_L (by rw [aads]; exact hz))
      have hDa : D ∉ adS e nm sz dp := fun q => mat10.there D (ads_L (by rw [aads]; exact q)) hD
      have matX : ∀ {H' : Hp} {more : List T}, Kp (adS e nm sz dp) J10 H' → StAt P w K cS H' s e nm sz dp (v10 ++ more) → MAt P w K cS cM H' A (v10 ++ more) (g :: p) ⟨[], [], 0⟩ := fun {H' more} c d => mat10.store (by rw [aads]; exact c) (by rw [← hA]; exact d)
      refine lc_list (xs := ys) (fun i H' => ∃ (more : List T) (ns : List Nat), Kp (adS e nm sz dp) J10 H' ∧ StAt P w K cS H' s e nm sz dp (v10 ++ more) ∧ H' D = some (.lst (ns.map vint)) ∧ Nums (v10 ++ more) ns (ts.take i) ∧ more.length ≤ 3000 * i) ?_ ?_ ?_ ?_
      · exact ⟨[], [], Kp.of_same (same_upd hD), by rw [List.append_nil]; exact st10.same (same_upd hD), upd_same, .nil, Nat.zero_le _⟩
      · rintro i H' _ ⟨more, ns, c1, _⟩
        exact SqL.of ((kpX c1).keep b _ (fun q => by rw [List.mem_singleton.mp q, ho] at hb; cases hb) hb)
      · rintro i z H' hz ⟨more, ns, c1, hst, c3, c4, c5⟩
        have c2 := matX c1 hst
        obtain ⟨tz, htz', hzr⟩ := hys.getV hz
        have hi := (List.getElem?_eq_some_iff.mp htz').1
        have htk : ts.take (i + 1) = ts.take i ++ [tz] := by rw [List.take_succ, htz']; rfl
        obtain ⟨dx2, y2, ho11, hy11⟩ := c2.obj
        rw [am] at ho11
        obtain ⟨dxt, hos⟩ := hst.obj
        have hc4l := c4.length
        rw [List.length_take] at hc4l
        have htzs := htz tz (List.mem_of_getElem? htz')
        refine ⟨rfl, ?_⟩
        refine ⟨_, rfl, x, cM, dx2, _, _, rfl, ho11, TM.cl, TM.nStore, (by rw [← as]; rfl), s, dxt, _, rfl, hos, rfl, _, rfl, s, e, nm, sz, dp, v10 ++ more, z, tz, rfl, hst, hzr.tups (hTk _ (kpX c1)), by omega, by rw [List.length_append]; omega, fun H5 m5 n5 kp5 st5 hl5 hn5 => ?_⟩
        rw [List.append_assoc] at st5 hn5
        have i3 := kp5.keep D _ hDa c3
        refine ⟨ns.map vint, i3, by rw [List.length_map]; omega, more ++ m5, ns ++ [n5], (c1.trans kp5).upd (.inr hD), st5.upd st10 hD (Tups.upd i3 trivial), by rw [upd_same, List.map_append]; rfl, ?_, by rw [List.length_append]; omega⟩
        rw [htk]
        exact (show Nums (v10 ++ (more ++ m5)) ns (ts.take i) by rw [← List.append_assoc]; exact c4.mono _).append (.cons hn5 .nil)
      · rintro H' ⟨more, ns, c1, c2, c3, c4, c5⟩
        rw [hysl, List.take_length] at c4
        rw [hysl] at c5
        refine ⟨D, _, rfl, SqL.of c3, fun l H5 S5 hT => ?_⟩
        refine ⟨A, v10 ++ more, g :: p, ⟨[], [], 0⟩, nmn, l, g.name, g, ns, ts, by rw [am]; rfl, (matX c1 c2).same S5, get_more hn10 _, ?_, hT, c4, htl, Nat.zero_le _, fun H6 more6 kp6 m6 hl6 => ?_⟩
        · unfold look; rw [List.find?_cons, decide_eq_true rfl]
        · refine k H6 A _ am (kpL ((kpX c1).trans (Kp.of_same S5)) kp6) aL m6 ?_
          rw [List.length_append, List.length_append]
          omega
end
end K46
/-! Run, started, run_program. -/
namespace K46
open PySem PySem.Spec PyProof.Rows L2

structure TxtR (K : PySem.W.Frag) (cR : Addr) : Prop where
  cl : Cls K cR
  nKind : NoAttr K cR "kind"
  nValue : NoAttr K cR "value"
  nSteps : NoAttr K cR "steps"
def fieldsR (k v n : V) : List (Str × V) := [("kind", k), ("value", v), ("steps", n)]
def spRInit (cR : Addr) : Sp := fun vs H Q _ => ∃ (x dx : Addr) (k v n : V), vs = [.ref x, k, v, n] ∧ H x = some (.ins cR dx []) ∧ Q .non (upd H x (.ins cR dx (fieldsR k v n)))
def spStarted (P : Program) (w : World) (K : PySem.W.Frag) (cS cM : Addr) : Sp := fun vs H Q _ => ∃ (v : V) (b : Addr) (ys : List V) (g : Fn) (p : Prog) (ts : List T), vs = [v, .ref b, .bl false] ∧ Rep K H (progT (g :: p)) v ∧ H b = some (.lst ys) ∧ Reps K H ts ys ∧
  ts.length = g.ps.length ∧ Good (g :: p) ∧ Slim (g :: p) ∧ (progT (g :: p)).size ≤ 60000 ∧ (∀ t ∈ ts, t.size ≤ 1000) ∧
  ∀ (H' : Hp) (A : MAd) (vals : List T), Same H H' → (∀ b ∈ A.L, H b = none) → MAt P w K cS cM H' A vals (g :: p) (startM g ts) → vals.length ≤ 500000 → Q (.ref A.m) H'
def spRunProgram (P : Program) (w : World) (K : PySem.W.Frag) (cR : Addr) : Sp := fun vs H Q _ => ∃ (v : V) (b : Addr) (ys : List V) (g : Fn) (p : Prog) (ts : List T) (lim m n : Nat) (t : T), vs = [v, .ref b, vint lim] ∧ Rep K H (progT (g :: p)) v ∧ H b = some (.lst ys) ∧ Reps K H ts ys ∧
  ts.length = g.ps.length ∧ Good (g :: p) ∧ Slim (g :: p) ∧ (progT (g :: p)).size ≤ 60000 ∧ (∀ t ∈ ts, t.size ≤ 1000) ∧ Runs (g :: p) (startM g ts) m t n ∧ n ≤ lim ∧ m ≤ 90000 ∧ t.size ≤ 200000 ∧ t.depth ≤ 200 ∧
  ∀ (H' : Hp) (r dx : Addr) (rv : V), Same H H' → H' r = some (.ins cR dx (fieldsR (.str "done") rv (vint n))) → Rep K H' t rv → Q (.ref r) H'
abbrev sRInit : Stmt := inClass (top 33) 0
theorem sc_sRInit : FnScope ["self", "kind", "value", "steps"] ["self", "kind", "value", "steps"] (defScope sRInit) := ⟨rfl, rfl, rfl, by decide +kernel, rfl, by decide +kernel, by decide +kernel⟩
abbrev sStarted : Stmt := top 35
theorem sc_sStarted : FnScope ["program", "inputs", "keeping"] ["program", "inputs", "keeping"] (defScope sStarted) := ⟨rfl, rfl, rfl, by decide +kernel, rfl, by decide +kernel, by decide +kernel⟩
abbrev sRunProgram : Stmt := top 36
theorem sc_sRunProgram : FnScope ["program", "inputs", "limit", "machine"] ["program", "inputs", "limit"] (defScope sRunProgram) := ⟨rfl, rfl, rfl, by decide +kernel, rfl, by decide +kernel, by decide +kernel⟩
section
variable {P : Program} {w : World} {K : PySem.W.Frag} {mg : Str → Option Value} {base : Heap} {cS cM cR : Addr}
theorem ok_rInit {f : Addr} {fd : FuncData} (TR : TxtR K cR) (F : Fun K "__init__" "Run.__init__" sRInit f fd) : FnOk P w K mg base CX0 1 f fd ["self", "kind", "value", "steps"] (spRInit cR) := by
  refine F.ok sc_sRInit (fun vs H Q XE h => ?_) (fun cdv AA outer st H vs Q XE hr h => ?_)
  · obtain ⟨x, dx, k, v, n, rfl, _⟩ := h
    rfl
  · obtain ⟨x, dx, k, v, n, rfl, ho, q⟩ := h
    have nd := sc_sRInit.nd
    refine ⟨_,
      (pss_cons (ps_fld (pv 0) (pv 1) rfl)
      (pss_cons (ps_fld (pv 0) (pv 2) rfl)
      (pss_one (ps_fld (pv 0) (pv 3) rfl))))
      , ?_⟩
    refine ⟨_, rfl, _, rfl, x, cR, dx, _, rfl, ho, TR.cl, TR.nKind, (by show 0 < 1000; decide), ?_⟩
    refine ⟨_, rfl, _, rfl, x, cR, dx, _, rfl, upd_same, TR.cl, TR.nValue, (by show 1 < 1000; decide), ?_⟩
    refine ⟨_, rfl, _, rfl, x, cR, dx, _, rfl, upd_same, TR.cl, TR.nSteps, (by show 2 < 1000; decide), ?_⟩
    rw [upd_upd, upd_upd]
    exact q
theorem ok_started {f fC fI fM : Addr} {fd fdC fdI fdM : FuncData} (B : Bl mg) (D : Dfn K mg "started" sStarted ["program", "inputs", "keeping"] f fd)
    (DC : Dfn K mg "check_program" sCheckProgram ["value"] fC fdC) (GC : FnOk P w K mg base CX0 7 fC fdC ["value"] (spCheckProgram K))
    (DI : Dfn K mg "inputs_of" sInputsOf ["program"] fI fdI) (GI : FnOk P w K mg base CX0 7 fI fdI ["program"] (spInputsOf K))
    (MkM : Mk K cM fM) (gM : mg "Machine" = some (.ref cM)) (kM : KBn K fdM ["self", "program", "inputs", "keeping"] 3 ["keeping"] (fun us ws => us ++ ws) (fun vs zs => vs ++ zs)) (GM : FnOk P w K mg base CX0 6 fM fdM ["self", "program", "inputs", "keeping"] (spMInit P w K cS cM)) :
    FnOk P w K mg base CX0 8 f fd ["program", "inputs", "keeping"] (spStarted P w K cS cM) := by
  refine D.F.ok sc_sStarted (fun vs H Q XE h => ?_) (fun cdv AA outer st H vs Q XE hr h => ?_)
  · obtain ⟨v, b, ys, g, p, ts, rfl, _⟩ := h
    rfl
  · obtain ⟨v, b, ys, g, p, ts, rfl, hv, hb, hys, htl, hgd, hsl, hsz, htz, k⟩ := h
    have nd := sc_sStarted.nd
    refine ⟨_,
      (pss_cons (ps_expr (pe_call GC hr (by rfl) DC.g DC.F.kp DC.b .nil pass0 (pa_cons (pv 0) pa_nil)))
      (pss_cons (ps_if (pt_cmpR op_ne (pe_callB call_len_seq (by rfl) B.len PySem.boot_len (pa_cons (pv 1) pa_nil)) (pe_call GI hr (by rfl) DI.g DI.F.kp DI.b .nil pass0 (pa_cons (pv 0) pa_nil)) (nomark _))
      pss_never
      pss_nil)
      (pss_one (ps_ret (pe_makeK MkM GM hr (by rfl) gM kM pass0 (pa_cons (pv 0) (pa_cons (pv 1) pa_nil)) (pk_cons (pv 2) pk_nil))))))
      , ?_⟩
    have hysl := hys.length
    refine ⟨_, rfl, v, _, rfl, hv, hgd, fun H1 S1 => ?_⟩
    refine ⟨_, rfl, b, _, rfl, .inl (SqL.of (S1 _ _ hb)), _, rfl, v, g, p, rfl, hv.same S1, hgd, fun H2 S2 => ⟨rfl, ?_⟩⟩
    rw [decide_eq_true (show V.int ((ys.length : Nat) : Int) = V.int ((g.ps.length : Nat) : Int) by rw [hysl, htl])]
    refine ⟨_, rfl, iteF ?_⟩
    have S := S1.trans S2
    refine ⟨_, rfl, _, rfl, _, rfl, rfl, rfl, fun x dx hx hdx hne => ?_⟩
    have S3 : Same H2 (upd (upd H2 dx (.own x)) x (.ins cM dx [])) := (same_upd hdx).upd hx
    refine ⟨x, dx, v, b, ys, g, p, ts, rfl, upd_same, hv.same (S.trans S3), S3 _ _ (S _ _ hb), hys.same (S.trans S3), htl, hsl, hsz, htz, fun H' A vals am kp hL hm hl => ⟨rfl, ?_⟩⟩
    have hk : Kp [x] H2 H' := (Kp.of_same S3).trans kp
    have hk2 : Kp [] H2 H' := hk.forget hx
    have S4 : Same H2 H' := fun z u h => hk2.keep z u (fun q => nomatch q) h
    have := k H' A vals (S.trans S4) (fun z hz => ?_) hm hl
    · rw [am] at this; exact this
    · rcases hL z hz with rfl | h
      · exact S.free hx
      · exact S.free (S3.free h)
theorem ok_runProgram {f fS fG fD fE fU fR : Addr} {fd fdS fdG fdD fdE fdU fdR : FuncData} (B : Bl mg) (TM : TxtM K mg cM) (D : Dfn K mg "run_program" sRunProgram ["program", "inputs", "limit"] f fd)
    (DS : Dfn K mg "started" sStarted ["program", "inputs", "keeping"] fS fdS) (GS : FnOk P w K mg base CX0 8 fS fdS ["program", "inputs", "keeping"] (spStarted P w K cS cM))
    (DG : MDf K cM "go_on" "Machine.go_on" sGoOn ["self", "limit"] fG fdG) (GG : FnOk P w K mg base CX0 8 fG fdG ["self", "limit"] (spGoOn P w K cS cM))
    (DD : MDf K cM "is_done" "Machine.is_done" sIsDone ["self"] fD fdD) (GD : FnOk P w K mg base CX0 8 fD fdD ["self"] (spIsDone P w K cS cM))
    (DE : MDf K cM "is_great" "Machine.is_great" sIsGreat ["self"] fE fdE) (GE : FnOk P w K mg base CX0 8 fE fdE ["self"] (spIsGreat P w K cS cM))
    (DU : MDf K cM "result" "Machine.result" sResult ["self"] fU fdU) (GU : FnOk P w K mg base CX0 8 fU fdU ["self"] (spResult P w K cS cM))
    (MkR : Mk K cR fR) (gR : mg "Run" = some (.ref cR)) (bR : Binds K fdR ["self", "kind", "value", "steps"] []) (GR : FnOk P w K mg base CX0 7 fR fdR ["self", "kind", "value", "steps"] (spRInit cR)) :
    FnOk P w K mg base CX0 9 f fd ["program", "inputs", "limit"] (spRunProgram P w K cR) := by
  refine D.F.ok sc_sRunProgram (fun vs H Q XE h => ?_) (fun cdv AA outer st H vs Q XE hr h => ?_)
  · obtain ⟨v, b, ys, g, p, ts, lim, m, n, t, rfl, _⟩ := h
    rfl
  · obtain ⟨v, b, ys, g, p, ts, lim, m, n, t, rfl, hv, hb, hys, htl, hgd, hsl, hsz, htz, hrun, hlim, hm, ht1, ht2, k⟩ := h
    have nd := sc_sRunProgram.nd
    refine ⟨_,
      (pss_cons (ps_set (i := 3) nd rfl (.inl rfl) (pe_call GS hr (by rfl) DS.g DS.F.kp DS.b .nil pass0 (pa_cons (pv 0) (pa_cons (pv 1) (pa_cons pe_bl pa_nil)))))
      (pss_cons (ps_expr (pe_meth (pv 3) TM.cl DG.m GG hr DG.b .nil pass0 (pa_cons (pv 2) pa_nil)))
      (pss_cons (ps_if (PW.pt (pw_and (pt_val (pe_meth0 (pv 3) TM.cl DD.m GD hr DD.b .nil pass0)) (pw_and1 (pt_val (pe_meth0 (pv 3) TM.cl DE.m GE hr DE.b .nil pass0)))))
      pss_never
      pss_nil)
      (pss_cons (ps_if (pt_val (pe_meth0 (pv 3) TM.cl DD.m GD hr DD.b .nil pass0))
      (pss_one (ps_ret (pe_make MkR GR hr (by rfl) gR bR .nil pass0 (pa_cons pe_str (pa_cons (pe_meth0 (pv 3) TM.cl DU.m GU hr DU.b .nil pass0) (pa_cons (pe_fld (pv 3) rfl) pa_nil))))))
      pss_nil)
      (pss_one ps_never)))))
      , ?_⟩
    refine ⟨_, rfl, _, rfl, v, b, ys, g, p, ts, rfl, hv, hb, hys, htl, hgd, hsl, hsz, htz, fun H1 A vals S1 hL mat hvl => ?_⟩
    obtain ⟨dx, y, ho, hy⟩ := mat.obj
    refine ⟨_, rfl, A.m, dx, _, rfl, ho, rfl, _, rfl, A, vals, g :: p, startM g ts, lim, m, n, t, rfl, mat, hrun, hlim, (by show 1 + 101 * m ≤ 10000000; omega), (by show 0 + m ≤ 10000000; omega), by omega, fun H2 more kp2 mat2 hl2 => ?_⟩
    have S2 : Same H H2 := fun z u h => kp2.keep z u (fun q => by rw [hL z q] at h; cases h) (S1 _ _ h)
    obtain ⟨dx2, y2, ho2, hy2⟩ := mat2.obj
    have edn : decide (([] : List Task) = []) = true := decide_eq_true rfl
    refine ⟨_, rfl, A.m, dx2, _, rfl, ho2, rfl, A, _, _, _, rfl, mat2, ?_⟩
    rw [edn]
    refine ⟨_, rfl, iteT ⟨_, rfl, A.m, dx2, _, rfl, ho2, rfl, A, _, _, _, t, rfl, mat2, rfl, ht1, ht2, _, rfl, iteF ?_⟩⟩
    refine ⟨_, rfl, A.m, dx2, _, rfl, ho2, rfl, A, _, _, _, rfl, mat2, ?_⟩
    rw [edn]
    refine ⟨_, rfl, iteT ?_⟩
    refine ⟨_, rfl, A.m, dx2, _, rfl, ho2, rfl, A, _, _, _, t, rfl, mat2, rfl, ht1, by rw [List.length_append]; omega, fun rv H3 S3 hr3 => ?_⟩
    refine ⟨_, rfl, A.m, cM, dx2, _, _, rfl, S3 _ _ ho2, TM.cl, TM.nSteps, rfl, fun x dx hx hdx hne => ?_⟩
    have S4 : Same H3 (upd (upd H3 dx (.own x)) x (.ins cR dx [])) := (same_upd hdx).upd hx
    have S5 : Same H3 (upd (upd (upd H3 dx (.own x)) x (.ins cR dx [])) x (.ins cR dx (fieldsR (.str "done") rv (vint n)))) := S4.upd hx
    exact ⟨x, dx, .str "done", rv, vint n, rfl, upd_same, rfl, k _ x dx rv ((S2.trans S3).trans S5) upd_same (hr3.same S5)⟩
end
end K46
/-! making: made_name, made_parameters, with_main, fill_function; own: quoted, listed, filled_tree. -/
namespace K46
open PySem PySem.Spec PyProof.Rows L2

def xname (i : Nat) : Str := "x" ++ toString ((0 : Int) + (i : Int) + 1)
def xnames (k : Nat) : List Str := (List.range k).map xname
def tQ (t : T) : T := .l [.w sQuote, t]
def tJ (a b : T) : T := .l [.w sJoin, a, b]
def listT : List T → T
  | [] => tQ nil
  | t :: ts => tJ t (listT ts)
def treeT (main : Str) (number many : Nat) : T :=
  tJ (listT [tQ (.w (fname number)), tQ (.l ((xnames many).map T.w)), tJ (tQ (.w main)) (tJ (listT [tQ (.w sQuote), .w "s"]) (tQ (.l ((xnames many).map T.w))))]) (.w "s")
def fillT (main : Str) (number : Nat) (t : T) (many : Nat) : T := .l [.w (fname number), .l ((xnames many).map T.w), .l (.w main :: tQ t :: (xnames many).map T.w)]
theorem num_len : ∀ n, n < 100 → (Str.ofString (toString ((n : Nat) : Int))).length ≤ 10 := by decide +kernel
theorem xnum_len : ∀ n, n < 12 → (Str.ofString (toString ((0 : Int) + ((n : Nat) : Int) + 1))).length ≤ 10 ∧ ((0 : Int) + ((n : Nat) : Int) + 1).natAbs.log2 < 1920 := by decide +kernel
theorem one_len : ("f" : Str).length = 1 ∧ ("x" : Str).length = 1 := by decide +kernel
def spMadeName : Sp := fun vs H Q _ => ∃ n : Nat, vs = [vint n] ∧ n < 100 ∧ Q (.str (fname n)) H
def spMadeParameters (K : PySem.W.Frag) : Sp := fun vs H Q _ => ∃ n : Nat, vs = [vint n] ∧ n ≤ 12 ∧ Ret K H Q (.l ((xnames n).map T.w))
def spWithMain (K : PySem.W.Frag) : Sp := fun vs H Q _ => ∃ (v1 v2 v3 : V) (fs : List T) (tp tb : T), vs = [v1, v2, v3] ∧ Rep K H (.l fs) v1 ∧ Rep K H tp v2 ∧ Rep K H tb v3 ∧ fs.length < 100 ∧ Ret K H Q (.l (.l [.w (fname fs.length), tp, tb] :: fs))
def spFillFunction (K : PySem.W.Frag) : Sp := fun vs H Q _ => ∃ (main : Str) (n m : Nat) (v : V) (t : T), vs = [.str main, vint n, v, vint m] ∧ Rep K H t v ∧ n < 100 ∧ m ≤ 12 ∧ Ret K H Q (fillT main n t m)
def spQuoted (K : PySem.W.Frag) : Sp := fun vs H Q _ => ∃ (v : V) (t : T), vs = [v] ∧ Rep K H t v ∧ Ret K H Q (tQ t)
def spListed (K : PySem.W.Frag) : Sp := fun vs H Q _ => ∃ (b : Addr) (ys : List V) (ts : List T), vs = [.ref b] ∧ H b = some (.lst ys) ∧ Reps K H ts ys ∧ Ret K H Q (listT ts)
def spFilledTree (K : PySem.W.Frag) : Sp := fun vs H Q _ => ∃ (main : Str) (n m : Nat), vs = [.str main, vint n, vint m] ∧ n < 100 ∧ m ≤ 12 ∧ Ret K H Q (treeT main n m)
abbrev sMadeName : Stmt := top 40
theorem sc_sMadeName : FnScope ["number"] ["number"] (defScope sMadeName) := ⟨rfl, rfl, rfl, by decide +kernel, rfl, by decide +kernel, by decide +kernel⟩
abbrev sMadeParameters : Stmt := top 41
theorem sc_sMadeParameters : FnScope ["many", "k"] ["many"] (defScope sMadeParameters) := ⟨rfl, rfl, rfl, by decide +kernel, rfl, by decide +kernel, by decide +kernel⟩
abbrev sWithMain : Stmt := top 46
theorem sc_sWithMain : FnScope ["functions", "parameters", "body"] ["functions", "parameters", "body"] (defScope sWithMain) := ⟨rfl, rfl, rfl, by decide +kernel, rfl, by decide +kernel, by decide +kernel⟩
abbrev sFillFunction : Stmt := top 47
theorem sc_sFillFunction : FnScope ["main", "number", "value", "many", "parameters"] ["main", "number", "value", "many"] (defScope sFillFunction) := ⟨rfl, rfl, rfl, by decide +kernel, rfl, by decide +kernel, by decide +kernel⟩
abbrev sQuoted : Stmt := top 50
theorem sc_sQuoted : FnScope ["value"] ["value"] (defScope sQuoted) := ⟨rfl, rfl, rfl, by decide +kernel, rfl, by decide +kernel, by decide +kernel⟩
abbrev sListed : Stmt := top 51
theorem sc_sListed : FnScope ["parts", "found", "part"] ["parts"] (defScope sListed) := ⟨rfl, rfl, rfl, by decide +kernel, rfl, by decide +kernel, by decide +kernel⟩
abbrev sFilledTree : Stmt := top 52
theorem sc_sFilledTree : FnScope ["main", "number", "many", "inputs", "value", "body", "function"] ["main", "number", "many"] (defScope sFilledTree) := ⟨rfl, rfl, rfl, by decide +kernel, rfl, by decide +kernel, by decide +kernel⟩
section
variable {P : Program} {w : World} {K : PySem.W.Frag} {mg : Str → Option Value} {base : Heap}
theorem ok_madeName {f : Addr} {fd : FuncData} (B : Bl mg) (D : Dfn K mg "made_name" sMadeName ["number"] f fd) : FnOk P w K mg base CX0 1 f fd ["number"] spMadeName := by
  refine D.F.ok sc_sMadeName (fun vs H Q XE h => ?_) (fun cdv AA outer st H vs Q XE hr h => ?_)
  · obtain ⟨n, rfl, _⟩ := h
    rfl
  · obtain ⟨n, rfl, hn, k⟩ := h
    have nd := sc_sMadeName.nd
    refine ⟨_,
      (pss_one (ps_ret (pe_op op_add_str pe_str (pe_callTy call_str_int (by rfl) B.str PyProof.Rows.boot_str (pa_cons (pv 0) pa_nil)))))
      , ?_⟩
    have hlog : ((n : Nat) : Int).natAbs.log2 < 1920 := by
      rw [Int.natAbs_natCast]
      have : n.log2 ≤ n := Nat.log2_le_self n
      omega
    refine ⟨_, rfl, _, rfl, hlog, "f", _, rfl, rfl, ?_, k⟩
    have h1 := num_len n hn
    have h2 := one_len.1
    have hs : sizeLine = 16777216 := rfl
    omega
theorem ok_madeParameters {f : Addr} {fd : FuncData} (B : Bl mg) (D : Dfn K mg "made_parameters" sMadeParameters ["many"] f fd) : FnOk P w K mg base CX0 1 f fd ["many"] (spMadeParameters K) := by
  refine D.F.ok sc_sMadeParameters (fun vs H Q XE h => ?_) (fun cdv AA outer st H vs Q XE hr h => ?_)
  · obtain ⟨n, rfl, _⟩ := h
    rfl
  · obtain ⟨n, rfl, hn, k⟩ := h
    have nd := sc_sMadeParameters.nd
    refine ⟨_,
      (pss_one (ps_ret (pe_callTy call_tupOf (by rfl) B.tuple PyProof.Rows.boot_tuple (pa_cons (pe_lc (own := [("k", 1)]) (g := gName 1) (tt := tYes) (by rfl) nd (pi_range1 (by rfl) B.range (pa_cons (pv 0) pa_nil)) (blkOk_by (own := [("k", 1)]) (N := ["many", "k"]) (sc := defScope sMadeParameters) (by decide +kernel)) (fun _ _ _ _ _ => by exact (pg_name (i := 1) nd rfl (Or.inl rfl))) (fun _ _ _ _ _ => by exact pts_nil) (fun _ _ _ _ _ => by exact (pe_op op_add_str pe_str (pe_callTy call_str_int (by rfl) B.str PyProof.Rows.boot_str (pa_cons (pe_op op_add (pv 1) pe_int) pa_nil))))) pa_nil))))
      , ?_⟩
    have hs : sizeLine = 16777216 := rfl
    refine ⟨_, rfl, _, rfl, by omega, by omega, fun D hD => ?_⟩
    have e0 : (((n : Nat) : Int) - 0).toNat = n := by omega
    refine lc_range (lo := 0) (n := n) (fun i H' => Same H H' ∧ H' D = some (.lst (((List.range i).map xname).map V.str))) ⟨same_upd hD, upd_same⟩ ?_ ?_
    · rintro i H' hi ⟨S, h1⟩
      have hx := xnum_len i (by omega)
      have h2 := one_len.2
      refine ⟨rfl, ?_⟩
      refine ⟨_, rfl, _, _, rfl, rfl, _, rfl, hx.2, "x", _, rfl, rfl, by omega, _, h1, by rw [List.length_map, List.length_map, List.length_range]; omega, S.upd hD, ?_⟩
      rw [upd_same, List.range_succ, List.map_append, List.map_append]
      rfl
    · rintro H' ⟨S, h1⟩
      refine ⟨D, _, rfl, SqL.of h1, fun l H2 S2 hT => ?_⟩
      refine k _ _ (S.trans S2) (Rep.l hT ?_)
      exact Reps.words _
theorem ok_quoted {f : Addr} {fd : FuncData} (B : Bl mg) (D : Dfn K mg "quoted" sQuoted ["value"] f fd) : FnOk P w K mg base CX0 1 f fd ["value"] (spQuoted K) := by
  refine D.F.ok sc_sQuoted (fun vs H Q XE h => ?_) (fun cdv AA outer st H vs Q XE hr h => ?_)
  · obtain ⟨v, t, rfl, _⟩ := h
    rfl
  · obtain ⟨v, t, rfl, hv, k⟩ := h
    have nd := sc_sQuoted.nd
    refine ⟨_,
      (pss_one (ps_ret (pe_tup (pa_cons pe_str (pa_cons (pv 0) pa_nil)))))
      , ?_⟩
    refine ⟨_, rfl, (by show 2 ≤ sizeLine; decide), fun p hp => ?_⟩
    exact k _ _ (same_upd hp) (Rep.l (SqT.of upd_same) (.cons .w (.cons (hv.same (same_upd hp)) .nil)))
theorem ok_withMain {f fN : Addr} {fd fdN : FuncData} (B : Bl mg) (D : Dfn K mg "with_main" sWithMain ["functions", "parameters", "body"] f fd)
    (DN : Dfn K mg "made_name" sMadeName ["number"] fN fdN) (GN : FnOk P w K mg base CX0 1 fN fdN ["number"] spMadeName) : FnOk P w K mg base CX0 2 f fd ["functions", "parameters", "body"] (spWithMain K) := by
  refine D.F.ok sc_sWithMain (fun vs H Q XE h => ?_) (fun cdv AA outer st H vs Q XE hr h => ?_)
  · obtain ⟨v1, v2, v3, fs, tp, tb, rfl, _⟩ := h
    rfl
  · obtain ⟨v1, v2, v3, fs, tp, tb, rfl, h1, h2, h3, hl, k⟩ := h
    have nd := sc_sWithMain.nd
    refine ⟨_,
      (pss_one (ps_ret (pe_op op_catS (pe_tup (pa_cons (pe_tup (pa_cons (pe_call GN hr (by rfl) DN.g DN.F.kp DN.b .nil pass0 (pa_cons (pe_callB call_len_seq (by rfl) B.len PySem.boot_len (pa_cons (pv 0) pa_nil)) pa_nil)) (pa_cons (pv 1) (pa_cons (pv 2) pa_nil)))) pa_nil)) (pv 0))))
      , ?_⟩
    obtain ⟨a, xs, rfl, hT, hxs⟩ := h1.l_eq
    have hxl := hxs.length
    have hs : sizeLine = 16777216 := rfl
    refine ⟨_, rfl, a, _, rfl, .inr hT, fs.length, by rw [hxl]; rfl, hl, _, rfl, _, rfl, (by show 3 ≤ sizeLine; decide), fun p hp => ⟨(by show 1 ≤ sizeLine; decide), fun q hq => ?_⟩⟩
    have S1 := same_upd (o := .tup [.str (fname fs.length), v2, v3]) hp
    have S2 := same_upd (o := .tup [.ref p]) hq
    refine ⟨_, rfl, q, a, _, _, rfl, rfl, SqT.of upd_same, (hT.same S1).same S2, by rw [List.length_singleton]; omega, fun r H' S3 hr' => ?_⟩
    have S := (S1.trans S2).trans S3
    refine k _ _ S (Rep.l hr' (.cons (Rep.l (SqT.same S3 (SqT.same S2 (SqT.of upd_same))) (.cons .w (.cons (h2.same S) (.cons (h3.same S) .nil)))) (hxs.same S)))
theorem ok_fillFunction {f fN fP : Addr} {fd fdN fdP : FuncData} (B : Bl mg) (D : Dfn K mg "fill_function" sFillFunction ["main", "number", "value", "many"] f fd)
    (DN : Dfn K mg "made_name" sMadeName ["number"] fN fdN) (GN : FnOk P w K mg base CX0 1 fN fdN ["number"] spMadeName)
    (DP : Dfn K mg "made_parameters" sMadeParameters ["many"] fP fdP) (GP : FnOk P w K mg base CX0 1 fP fdP ["many"] (spMadeParameters K)) : FnOk P w K mg base CX0 2 f fd ["main", "number", "value", "many"] (spFillFunction K) := by
  refine D.F.ok sc_sFillFunction (fun vs H Q XE h => ?_) (fun cdv AA outer st H vs Q XE hr h => ?_)
  · obtain ⟨main, n, m, v, t, rfl, _⟩ := h
    rfl
  · obtain ⟨main, n, m, v, t, rfl, hv, hn, hm, k⟩ := h
    have nd := sc_sFillFunction.nd
    refine ⟨_,
      (pss_cons (ps_set (i := 4) nd rfl (.inl rfl) (pe_call GP hr (by rfl) DP.g DP.F.kp DP.b .nil pass0 (pa_cons (pv 3) pa_nil)))
      (pss_one (ps_ret (pe_tup (pa_cons (pe_call GN hr (by rfl) DN.g DN.F.kp DN.b .nil pass0 (pa_cons (pv 1) pa_nil)) (pa_cons (pv 4) (pa_cons (pe_op op_catS (pe_tup (pa_cons (pv 0) (pa_cons (pe_tup (pa_cons pe_str (pa_cons (pv 2) pa_nil))) pa_nil))) (pv 4)) pa_nil)))))))
      , ?_⟩
    have hs : sizeLine = 16777216 := rfl
    refine ⟨_, rfl, m, rfl, hm, fun rp H1 S1 hrp => ?_⟩
    obtain ⟨ap, ps, rfl, hpT, hps⟩ := hrp.l_eq
    have hpl := hps.length
    rw [List.length_map] at hpl
    have hxn : (xnames m).length = m := by unfold xnames; rw [List.length_map, List.length_range]
    refine ⟨_, rfl, n, rfl, hn, _, rfl, _, rfl, _, rfl, (by show 2 ≤ sizeLine; decide), fun p hp => ⟨(by show 2 ≤ sizeLine; decide), fun q hq => ?_⟩⟩
    have S2 := same_upd (o := .tup [.str "quote", v]) hp
    have S3 := same_upd (o := .tup [.str main, .ref p]) hq
    have hpT3 := (hpT.same S2).same S3
    have hp3 : SqT K (upd (upd H1 p (.tup [.str "quote", v])) q (.tup [.str main, .ref p])) p [.str "quote", v] := SqT.same S3 (SqT.of upd_same)
    refine ⟨_, rfl, q, ap, _, _, rfl, rfl, SqT.of upd_same, hpT3, by rw [hpl, hxn]; show 2 + m ≤ sizeLine; omega, fun b H4 S4 hb => ⟨(by show 3 ≤ sizeLine; decide), fun c hc => ?_⟩⟩
    have S5 := same_upd (o := .tup [.str (fname n), .ref ap, .ref b]) hc
    have S := (((S1.trans S2).trans S3).trans S4).trans S5
    have Sp := ((S2.trans S3).trans S4).trans S5
    refine k _ _ S (Rep.l (SqT.of upd_same) (.cons .w (.cons (Rep.l (hpT.same Sp) (hps.same Sp)) (.cons (Rep.l (hb.same S5) (.cons .w (.cons (Rep.l ((hp3.same S4).same S5) (.cons .w (.cons (hv.same S) .nil))) (hps.same Sp)))) .nil))))
theorem ok_listed {f fQ : Addr} {fd fdQ : FuncData} (B : Bl mg) (D : Dfn K mg "listed" sListed ["parts"] f fd)
    (DQ : Dfn K mg "quoted" sQuoted ["value"] fQ fdQ) (GQ : FnOk P w K mg base CX0 1 fQ fdQ ["value"] (spQuoted K)) : FnOk P w K mg base CX0 2 f fd ["parts"] (spListed K) := by
  refine D.F.ok sc_sListed (fun vs H Q XE h => ?_) (fun cdv AA outer st H vs Q XE hr h => ?_)
  · obtain ⟨b, ys, ts, rfl, _⟩ := h
    rfl
  · obtain ⟨b, ys, ts, rfl, hb, hys, k⟩ := h
    have nd := sc_sListed.nd
    refine ⟨_,
      (pss_cons (ps_set (i := 1) nd rfl (.inl rfl) (pe_call GQ hr (by rfl) DQ.g DQ.F.kp DQ.b .nil pass0 (pa_cons (pe_tup pa_nil) pa_nil)))
      (pss_cons (ps_for PassesOwn.never rfl (RT.pi_revA (by rfl) B.reversed (pv 0)) (pg_name (i := 2) nd rfl (.inl rfl))
      (pss_one (ps_set (i := 1) nd rfl (.inl rfl) (pe_tup (pa_cons pe_str (pa_cons (pv 2) (pa_cons (pv 1) pa_nil)))))))
      (pss_one (ps_ret (pv 1)))))
      , ?_⟩
    have hyl := hys.length
    refine ⟨(by show 0 ≤ sizeLine; decide), fun p hp => ⟨.ref p, nil, rfl, Rep.l (SqT.of upd_same) .nil, fun r0 H1 S1 hr0 => ?_⟩⟩
    have S01 := (same_upd (o := .tup []) hp).trans S1
    refine ⟨_, rfl, b, ys, rfl, .inl ⟨SqL.of (S01 _ _ hb), ?_⟩⟩
    refine RT.for_Itv (fun i σ' H' => ∃ (r : V) (x2 : Option V), σ' = [some (.ref b), some r, x2] ∧ Same H H' ∧ Rep K H' (listT (ts.drop (ts.length - i))) r) ?_ ?_ ?_ ?_
    · refine ⟨r0, _, rfl, S01, ?_⟩
      rw [Nat.sub_zero, List.drop_length]
      exact hr0
    · rintro i σ' H' ⟨r, x2, rfl, S, _⟩
      exact SqL.of (S _ _ hb)
    · rintro i x σ' H' hi hx ⟨r, x2, rfl, S, hr'⟩
      obtain ⟨tx, htx, hxr⟩ := hys.getV hx
      rw [hyl] at hi htx
      have hdrop : ts.drop (ts.length - (i + 1)) = tx :: ts.drop (ts.length - i) := by
        have h0 : ts.length - (i + 1) < ts.length := by omega
        rw [List.drop_eq_getElem_cons h0]
        have h1 : ts[ts.length - (i + 1)]? = some tx := by rw [show ts.length - (i + 1) = ts.length - 1 - i by omega]; exact htx
        rw [List.getElem?_eq_getElem h0] at h1
        rw [Option.some.inj h1, show ts.length - (i + 1) + 1 = ts.length - i by omega]
      refine ⟨_, rfl, _, rfl, (by show 3 ≤ sizeLine; decide), fun c hc => ?_⟩
      have Sc := same_upd (o := .tup [.str "join", x, r]) hc
      refine ⟨.ref c, _, rfl, S.trans Sc, ?_⟩
      rw [hdrop]
      exact Rep.l (SqT.of upd_same) (.cons .w (.cons ((hxr.same S).same Sc) (.cons (hr'.same Sc) .nil)))
    · rintro σ' H' ⟨r, x2, rfl, S, hr'⟩
      rw [hyl, Nat.sub_self, List.drop_zero] at hr'
      exact ⟨_, rfl, k _ _ S hr'⟩
theorem ok_filledTree {f fQ fL fN fP : Addr} {fd fdQ fdL fdN fdP : FuncData} (B : Bl mg) (D : Dfn K mg "filled_tree" sFilledTree ["main", "number", "many"] f fd)
    (DQ : Dfn K mg "quoted" sQuoted ["value"] fQ fdQ) (GQ : FnOk P w K mg base CX0 2 fQ fdQ ["value"] (spQuoted K)) (DL : Dfn K mg "listed" sListed ["parts"] fL fdL) (GL : FnOk P w K mg base CX0 2 fL fdL ["parts"] (spListed K))
    (DN : Dfn K mg "made_name" sMadeName ["number"] fN fdN) (GN : FnOk P w K mg base CX0 2 fN fdN ["number"] spMadeName)
    (DP : Dfn K mg "made_parameters" sMadeParameters ["many"] fP fdP) (GP : FnOk P w K mg base CX0 2 fP fdP ["many"] (spMadeParameters K)) : FnOk P w K mg base CX0 3 f fd ["main", "number", "many"] (spFilledTree K) := by
  refine D.F.ok sc_sFilledTree (fun vs H Q XE h => ?_) (fun cdv AA outer st H vs Q XE hr h => ?_)
  · obtain ⟨main, n, m, rfl, _⟩ := h
    rfl
  · obtain ⟨main, n, m, rfl, hn, hm, k⟩ := h
    have nd := sc_sFilledTree.nd
    refine ⟨_,
      (pss_cons (ps_set (i := 3) nd rfl (.inl rfl) (pe_call GP hr (by rfl) DP.g DP.F.kp DP.b .nil pass0 (pa_cons (pv 2) pa_nil)))
      (pss_cons (ps_set (i := 4) nd rfl (.inl rfl) (pe_call GL hr (by rfl) DL.g DL.F.kp DL.b .nil pass0 (pa_cons (pe_lst (pa_cons (pe_call GQ hr (by rfl) DQ.g DQ.F.kp DQ.b .nil pass0 (pa_cons pe_str pa_nil)) (pa_cons pe_str pa_nil))) pa_nil)))
      (pss_cons (ps_set (i := 5) nd rfl (.inl rfl) (pe_tup (pa_cons pe_str (pa_cons (pe_call GQ hr (by rfl) DQ.g DQ.F.kp DQ.b .nil pass0 (pa_cons (pv 0) pa_nil)) (pa_cons (pe_tup (pa_cons pe_str (pa_cons (pv 4) (pa_cons (pe_call GQ hr (by rfl) DQ.g DQ.F.kp DQ.b .nil pass0 (pa_cons (pv 3) pa_nil)) pa_nil)))) pa_nil)))))
      (pss_cons (ps_set (i := 6) nd rfl (.inl rfl) (pe_call GL hr (by rfl) DL.g DL.F.kp DL.b .nil pass0 (pa_cons (pe_lst (pa_cons (pe_call GQ hr (by rfl) DQ.g DQ.F.kp DQ.b .nil pass0 (pa_cons (pe_call GN hr (by rfl) DN.g DN.F.kp DN.b .nil pass0 (pa_cons (pv 1) pa_nil)) pa_nil)) (pa_cons (pe_call GQ hr (by rfl) DQ.g DQ.F.kp DQ.b .nil pass0 (pa_cons (pv 3) pa_nil)) (pa_cons (pv 5) pa_nil)))) pa_nil)))
      (pss_one (ps_ret (pe_tup (pa_cons pe_str (pa_cons (pv 6) (pa_cons pe_str pa_nil))))))))))
      , ?_⟩
    refine ⟨_, rfl, m, rfl, hm, fun rp H1 S1 hrp => ?_⟩
    -- value
    refine ⟨.str "quote", .w sQuote, rfl, .w, fun r1 H2 S2 hr1 => ⟨(by show 2 ≤ sizeLine; decide), fun p1 hp1 => ?_⟩⟩
    have T1 := same_upd (o := .lst [r1, .str "s"]) hp1
    refine ⟨p1, _, [tQ (.w sQuote), .w "s"], rfl, upd_same, .cons (hr1.same T1) (.cons .w .nil), fun r2 H3 S3 hr2 => ?_⟩
    -- body
    refine ⟨_, rfl, .str main, .w main, rfl, .w, fun r3 H4 S4 hr3 => ⟨_, rfl, _, rfl, rp, _, rfl, (((hrp.same S2).same T1).same S3).same S4, fun r4 H5 S5 hr4 => ⟨(by show 3 ≤ sizeLine; decide), fun p2 hp2 => ⟨(by show 3 ≤ sizeLine; decide), fun p3 hp3 => ?_⟩⟩⟩⟩
    have T2 := same_upd (o := .tup [.str "join", r2, r4]) hp2
    have T3 := same_upd (o := .tup [.str "join", r3, .ref p2]) hp3
    have hin : Rep K H5 (.l ((xnames m).map T.w)) rp := ((((hrp.same S2).same T1).same S3).same S4).same S5
    have hb : Rep K (upd (upd H5 p2 (.tup [.str "join", r2, r4])) p3 (.tup [.str "join", r3, .ref p2])) (tJ (tQ (.w main)) (tJ (listT [tQ (.w sQuote), .w "s"]) (tQ (.l ((xnames m).map T.w))))) (.ref p3) :=
      Rep.l (SqT.of upd_same) (.cons .w (.cons (((hr3.same S5).same T2).same T3) (.cons (Rep.l (SqT.same T3 (SqT.of upd_same)) (.cons .w (.cons ((((hr2.same S4).same S5).same T2).same T3) (.cons ((hr4.same T2).same T3) .nil)))) .nil)))
    have SS : Same H (upd (upd H5 p2 (.tup [.str "join", r2, r4])) p3 (.tup [.str "join", r3, .ref p2])) := (((((((S1.trans S2).trans T1).trans S3).trans S4).trans S5).trans T2).trans T3)
    have hin := (hin.same T2).same T3
    clear hr1 hr2 hr3 hr4 hrp
    generalize upd (upd H5 p2 (.tup [.str "join", r2, r4])) p3 (.tup [.str "join", r3, .ref p2]) = H7 at *
    refine ⟨_, rfl, n, rfl, hn, .str (fname n), .w (fname n), rfl, .w, fun r5 H8 S8 hr5 => ⟨_, rfl, rp, _, rfl, hin.same S8, fun r6 H9 S9 hr6 => ⟨_, rfl, (by show 3 ≤ sizeLine; decide), fun p4 hp4 => ?_⟩⟩⟩
    have T4 := same_upd (o := .lst [r5, r6, .ref p3]) hp4
    refine ⟨p4, _, [tQ (.w (fname n)), tQ (.l ((xnames m).map T.w)), tJ (tQ (.w main)) (tJ (listT [tQ (.w sQuote), .w "s"]) (tQ (.l ((xnames m).map T.w))))], rfl, upd_same, .cons ((hr5.same S9).same T4) (.cons (hr6.same T4) (.cons (((hb.same S8).same S9).same T4) .nil)), fun r7 H10 S10 hr7 => ?_⟩
    refine ⟨_, rfl, (by show 3 ≤ sizeLine; decide), fun p5 hp5 => ?_⟩
    have T5 := same_upd (o := .tup [.str "join", r7, .str "s"]) hp5
    exact k _ _ (((((SS.trans S8).trans S9).trans T4).trans S10).trans T5) (Rep.l (SqT.of upd_same) (.cons .w (.cons (hr7.same T5) (.cons .w .nil))))
end
end K46
/-! making: renamed_expression. -/
namespace K46
open PySem PySem.Spec PyProof.Rows L2

def spec7 : List Str := [sQuote, sIf, sSame, sWord, sHead, sTail, sJoin]
structure TxtSp (K : PySem.W.Frag) (mg : Str → Option Value) (aS : Addr) : Prop where
  g : mg "SPECIAL" = some (.ref aS)
  at_ : ∀ H, SqT K H aS (spec7.map V.str)
theorem inV_spec (x : Str) : inV (.str x) (spec7.map V.str) = (special x).isSome := by
  rw [inV_strs, ← in_specTab, specTab_keys]
  rfl
def FinE (e0 : E) : List (E × Bool) → List E → Prop
  | [], M => M = [e0]
  | (e, false) :: ws, M => FinE e0 ws (e :: M)
  | (e, true) :: ws, M => ∃ x es M', e = .app x es ∧ M = es ++ M' ∧ FinE e0 ws (e :: M')
theorem finE_items {e0 : E} {ws : List (E × Bool)} : ∀ {es : List E} {M : List E}, FinE e0 ws (es ++ M) → FinE e0 (es.reverse.map (fun e => (e, false)) ++ ws) M := by
  intro es
  suffices key : ∀ (us : List E) (M : List E), FinE e0 ws (us.reverse ++ M) → FinE e0 (us.map (fun e => (e, false)) ++ ws) M by
    intro M h
    exact key es.reverse M (by rw [List.reverse_reverse]; exact h)
  intro us
  induction us with
  | nil => intro M h; exact h
  | cons u us ih =>
    intro M h
    show FinE e0 (us.map (fun e => (e, false)) ++ ws) (u :: M)
    refine ih _ ?_
    rw [List.reverse_cons, List.append_assoc] at h
    exact h
def argsE : E → List E
  | .app _ es => es
  | _ => []
def pe1 : E × Bool → Nat
  | (e, false) => 3 * e.t.size - 1
  | (e, true) => (argsE e).length + 1
def pel (ws : List (E × Bool)) : Nat := (ws.map pe1).sum
theorem pel_cons (a : E × Bool) (ws : List (E × Bool)) : pel (a :: ws) = pe1 a + pel ws := by simp [pel]
theorem pel_append (as ws : List (E × Bool)) : pel (as ++ ws) = pel as + pel ws := by simp [pel]
theorem pe1_pos (a : E × Bool) : 1 ≤ pe1 a := by
  obtain ⟨e, b⟩ := a
  cases b with
  | false => have := size_pos e.t; simp only [pe1]; omega
  | true => simp only [pe1]; omega
theorem pel_len (ws : List (E × Bool)) : ws.length ≤ pel ws := by
  induction ws with
  | nil => exact Nat.le_refl _
  | cons a ws ih => have := pe1_pos a; rw [pel_cons, List.length_cons]; omega
theorem pel_items (es : List E) : pel (es.reverse.map (fun e => (e, false))) + es.length + 3 = 3 * sizeL (es.map E.t) := by
  have e : pel (es.reverse.map (fun e => (e, false))) = pel (es.map (fun e => (e, false))) := by simp [pel]
  rw [e]
  clear e
  induction es with
  | nil => simp [pel, sizeL]
  | cons t ts ih =>
    have := size_pos t.t
    rw [List.map_cons, pel_cons, List.length_cons, List.map_cons, sizeL]
    simp only [pe1]
    omega
theorem app_size (x : Str) (es : List E) : (E.app x es).t.size = 1 + sizeL (es.map E.t) := by
  rw [E.t_app]; simp [T.size, sizeL]
def EpAt (K : PySem.W.Frag) (H : Hp) (a : E × Bool) (u : V) : Prop := ∃ r y, u = .ref r ∧ SqT K H r [y, .bl a.2] ∧ Rep K H a.1.t y
def EpsAt (K : PySem.W.Frag) (H : Hp) (ws : List (E × Bool)) (us : List V) : Prop := Paired (EpAt K H) ws us
theorem EpsAt.tups {K : PySem.W.Frag} {H H' : Hp} (tt : Tups H H') : ∀ {ws : List (E × Bool)} {us : List V}, EpsAt K H ws us → EpsAt K H' ws us
  | _, _, .nil => .nil
  | _, _, .cons ⟨r, y, e, h1, h2⟩ t => .cons ⟨r, y, e, h1.tups tt, h2.tups tt⟩ (EpsAt.tups tt t)
theorem EpsAt.append {K : PySem.W.Frag} {H : Hp} : ∀ {ws ws' : List (E × Bool)} {us us' : List V}, EpsAt K H ws us → EpsAt K H ws' us' → EpsAt K H (ws ++ ws') (us ++ us')
  | _, _, _, _, .nil, k => k
  | _, _, _, _, .cons a t, k => .cons a (EpsAt.append t k)
theorem EpsAt.reverse {K : PySem.W.Frag} {H : Hp} : ∀ {ws : List (E × Bool)} {us : List V}, EpsAt K H ws us → EpsAt K H ws.reverse us.reverse
  | _, _, .nil => .nil
  | _, _, .cons a t => by rw [List.reverse_cons, List.reverse_cons]; exact (EpsAt.reverse t).append (.cons a .nil)
theorem ren_app (u : Str → Str) (x : Str) (es : List E) : ((E.app x es).ren u).t = .l (.w (if (special x).isSome then x else u x) :: (es.map fun e => (e.ren u).t)) := by
  rw [E.ren, renL_map, E.t_app, List.map_map]
  rfl
def spRenExpr (K : PySem.W.Frag) : Sp := fun vs H Q _ => ∃ (v : V) (d : Addr) (kvs : List (Key × V)) (e : E) (c : Str → Option Nat) (ps : List Str) (u : Str → Str), vs = [v, .ref d] ∧ Rep K H e.t v ∧ H d = some (.dK kvs) ∧ GoodE c ps e ∧ e.t.size ≤ 1000000 ∧
  (∀ x, (c x).isSome → special x = none → valV kvs (.inr x) = some (.str (u x))) ∧ Ret K H Q (e.ren u).t
abbrev sRenExpr : Stmt := top 43
theorem sc_sRenExpr : FnScope ["expression", "names", "waiting", "made", "one", "is_ready", "part", "word", "_"] ["expression", "names"] (defScope sRenExpr) := ⟨rfl, rfl, rfl, by decide +kernel, rfl, by decide +kernel, by decide +kernel⟩
section
variable {P : Program} {w : World} {K : PySem.W.Frag} {mg : Str → Option Value} {base : Heap} {aS : Addr}
theorem ok_renExpr {f : Addr} {fd : FuncData} (B : Bl mg) (TSp : TxtSp K mg aS) (D : Dfn K mg "renamed_expression" sRenExpr ["expression", "names"] f fd) : FnOk P w K mg base CX0 1 f fd ["expression", "names"] (spRenExpr K) := by
  refine D.F.ok sc_sRenExpr (fun vs H Q XE h => ?_) (fun cdv AA outer st H vs Q XE hr h => ?_)
  · obtain ⟨v, d, kvs, e, c, ps, u, rfl, _⟩ := h
    rfl
  · obtain ⟨v, d, kvs, e0, c, ps, u, rfl, hrep, hd, hgd, htz, hu7, k⟩ := h
    have nd := sc_sRenExpr.nd
    have hu := hu_of hr
    refine ⟨_,
      (pss_cons (ps_set (i := 2) nd rfl (.inl rfl) (pe_lst (pa_cons (pe_tup (pa_cons (pv 0) (pa_cons pe_bl pa_nil))) pa_nil)))
      (pss_cons (ps_set (i := 3) nd rfl (.inr rfl) (pe_lst pa_nil))
      (pss_cons (ps_while PassesOwn.never (pt_cmpR op_gt (pe_callB call_len_seq (by rfl) B.len PySem.boot_len (pa_cons (pv 2) pa_nil)) pe_int (nomark _))
      (pss_cons (ps_asg (pe_bm0 PySem.F.plainAttrs_list PySem.F.slot_list_pop PySem.F.type_list_pop mt_pop (pv 2)) (pg_tup (by rfl) (pgs_cons (pg_name (i := 4) nd rfl (.inl rfl)) (pgs_cons (pg_name (i := 5) nd rfl (.inl rfl)) pgs_nil))))
      (pss_one (ps_if (PW.pt (pw_or (pt_val (pe_callB call_isStr (by rfl) B.isinstance PyProof.Rows.boot_isinstance (pa_cons (pv 4) (pa_cons (pe_bltn (v := .ty "str") (by rfl) B.str PyProof.Rows.boot_str rfl) pa_nil)))) (pw_or1 (pt_cmpR op_eq (pe_ix ix_tup (pv 4) pe_int (fun _ _ => rfl)) pe_str (nomark _)))))
      (pss_one (ps_expr (pe_bm PySem.F.plainAttrs_list PySem.F.slot_list_append PySem.F.type_list_append mt_append (pv 3) (pa_cons (pv 4) pa_nil))))
      (pss_one (ps_if (pt_not (pt_val (pv 5)))
      (pss_cons (ps_expr (pe_bm PySem.F.plainAttrs_list PySem.F.slot_list_append PySem.F.type_list_append mt_append (pv 2) (pa_cons (pe_tup (pa_cons (pv 4) (pa_cons pe_bl pa_nil))) pa_nil)))
      (pss_one (ps_expr (pe_bm PySem.F.plainAttrs_list PySem.F.slot_list_extend PySem.F.type_list_extend mt_extend (pv 2) (pa_cons (pe_lc (own := [("part", 6)]) (g := gName 6) (tt := tYes) (by rfl) nd (pi_tup (pe_slice sl_tupS (pv 4) (po_some pe_int) po_none)) (blkOk_by (own := [("part", 6)]) (N := ["expression", "names", "waiting", "made", "one", "is_ready", "part", "word", "_"]) (sc := defScope sRenExpr) (by decide +kernel)) (fun _ _ _ _ _ => by exact (pg_name (i := 6) nd rfl (Or.inl rfl))) (fun _ _ _ _ _ => by exact pts_nil) (fun _ _ _ _ _ => by exact (pe_tup (pa_cons (pv 6) (pa_cons pe_bl pa_nil))))) pa_nil)))))
      (pss_cons (ps_set (i := 7) nd rfl (.inl rfl) (pe_ifExp (pt_cmpR op_in_seq (pe_ix ix_tup (pv 4) pe_int (fun _ _ => rfl)) (pe_glob (v := .ref aS) (by rfl) TSp.g rfl) (by rfl)) (pe_ix ix_tup (pv 4) pe_int (fun _ _ => rfl)) (pe_dget hu (pv 1) (pe_ix ix_tup (pv 4) pe_int (fun _ _ => rfl)) (fun _ _ => rfl))))
      (pss_one (ps_expr (pe_bm PySem.F.plainAttrs_list PySem.F.slot_list_append PySem.F.type_list_append mt_append (pv 3) (pa_cons (pe_op op_catS (pe_tup (pa_cons (pv 7) pa_nil)) (pe_callTy call_tupOf (by rfl) B.tuple PyProof.Rows.boot_tuple (pa_cons (pe_lc (te := tBM0 K "list" rPop (tVar 3)) (own := [("_", 8)]) (g := gName 8) (tt := tYes) (by rfl) nd (pi_tup (pe_slice sl_tupS (pv 4) (po_some pe_int) po_none)) (blkOk_by (own := [("_", 8)]) (N := ["expression", "names", "waiting", "made", "one", "is_ready", "part", "word", "_"]) (sc := defScope sRenExpr) (by decide +kernel)) (fun _ _ _ _ _ => by exact (pg_name (i := 8) nd rfl (Or.inl rfl))) (fun _ _ _ _ _ => by exact pts_nil) (fun _ _ _ _ _ => by exact (pe_bm0 PySem.F.plainAttrs_list PySem.F.slot_list_pop PySem.F.type_list_pop mt_pop (pv 3)))) pa_nil))) pa_nil)))))))))))
      (pss_one (ps_ret (pe_ix ix_list (pv 3) pe_int (fun _ _ => rfl)))))))
      , ?_⟩
    have hs : sizeLine = 16777216 := rfl
    refine ⟨_, rfl, (by show 2 ≤ sizeLine; decide), fun q hq => ?_⟩
    refine ⟨(by show 1 ≤ sizeLine; decide), fun p1 hp1 => ⟨(by show 0 ≤ sizeLine; decide), fun p2 hp2 => ?_⟩⟩
    have hq1 : H p1 = none := (same_upd hq).free hp1
    have S1 : Same H (upd (upd H q (.tup [v, .bl false])) p1 (.lst [.ref q])) := (same_upd hq).upd hq1
    have hq2 : H p2 = none := S1.free hp2
    have n12 : p1 ≠ p2 := fun z => by rw [← z, upd_same] at hp2; cases hp2
    have nq1 : q ≠ p1 := fun z => by rw [← z, upd_same] at hp1; cases hp1
    have nq2 : q ≠ p2 := fun z => by rw [← z, upd_ne nq1, upd_same] at hp2; cases hp2
    have S2 : Same H (upd (upd (upd H q (.tup [v, .bl false])) p1 (.lst [.ref q])) p2 (.lst [])) := S1.upd hq2
    refine ⟨fun m σ H' => ∃ (ws : List (E × Bool)) (us : List V) (M : List E) (ms : List V) (x4 x5 x6 x7 x8 : Option V), σ = [some v, some (.ref d), some (.ref p1), some (.ref p2), x4, x5, x6, x7, x8] ∧ Same H H' ∧
      H' p1 = some (.lst us.reverse) ∧ EpsAt K H' ws us ∧ H' p2 = some (.lst ms.reverse) ∧ Reps K H' (M.map fun e => (e.ren u).t) ms ∧ FinE e0 ws M ∧ (∀ a ∈ ws, GoodE c ps a.1) ∧ M.length + pel ws ≤ 3 * e0.t.size ∧ m = pel ws,
      ⟨_, [(e0, false)], [.ref q], [], [], none, none, none, none, none, rfl, S2, by rw [upd_ne n12, upd_same]; rfl, ?_, upd_same, .nil, rfl, fun a ha => by rw [List.mem_singleton.mp ha]; exact hgd, ?_, rfl⟩, ?_⟩
    · exact .cons ⟨q, v, rfl, SqT.of (by rw [upd_ne nq2, upd_ne nq1, upd_same]), hrep.same S2⟩ .nil
    · simp only [pel, List.map_cons, List.map_nil, List.sum_cons, List.sum_nil, pe1, List.length_nil]; omega
    clear hp1 hp2 S1 S2 hq nq1 nq2
    rintro m σ H' ⟨ws, us, M, ms, x4, x5, x6, x7, x8, rfl, S, h1, hw, h2, hms, hfin, hge, hM, rfl⟩
    have hul := Paired.length hw
    have hwl := pel_len ws
    have hml := hms.length
    rw [List.length_map] at hml
    refine ⟨_, rfl, p1, _, rfl, .inl (SqL.of h1), _, _, rfl, rfl, _, rfl, ?_⟩
    cases hw with
    | nil =>
      rw [decide_eq_false (show ¬ ((0 : Int) < ((([] : List V).reverse.length : Nat) : Int)) by decide)]
      have hfin : M = [e0] := hfin
      subst hfin
      obtain ⟨y, r, rfl, q1, q2⟩ := hms.cons_eq
      have := q2.nil_eq
      subst this
      refine iteF ⟨_, rfl, p2, _, _, _, rfl, rfl, SqL.of h2, at0, ?_⟩
      exact k _ H' S q1
    | @cons a uu ws us hau hw =>
      rw [decide_eq_true (show (0 : Int) < (((uu :: us).reverse.length : Nat) : Int) by simp)]
      refine iteT ?_
      refine ⟨fun σ' H1 => ∃ (ws' : List (E × Bool)) (us : List V) (M : List E) (ms : List V) (x4 x5 x6 x7 x8 : Option V), σ' = [some v, some (.ref d), some (.ref p1), some (.ref p2), x4, x5, x6, x7, x8] ∧ Same H H1 ∧
        H1 p1 = some (.lst us.reverse) ∧ EpsAt K H1 ws' us ∧ H1 p2 = some (.lst ms.reverse) ∧ Reps K H1 (M.map fun e => (e.ren u).t) ms ∧ FinE e0 ws' M ∧ (∀ a ∈ ws', GoodE c ps a.1) ∧ M.length + pel ws' ≤ 3 * e0.t.size ∧ pel ws' < pel (a :: ws), ?_, ?_⟩
      · rintro σ' H1 ⟨ws', us, M, ms, x4, x5, x6, x7, x8, rfl, b2, b4, b5, b6, b7, b8, b9, b10, b11⟩
        exact ⟨_, b11, ws', us, M, ms, x4, x5, x6, x7, x8, rfl, b2, b4, b5, b6, b7, b8, b9, b10, rfl⟩
      have hpc := pel_cons a ws
      obtain ⟨r, y, rfl, hrT, hry⟩ := hau
      refine ⟨_, rfl, .inl ⟨rfl, _, SqL.of h1⟩, p1, _, _, rfl, rfl, h1, rev_last _ _, ?_⟩
      rw [dropLast_rev]
      have tt : Tups H' (upd H' p1 (.lst us.reverse)) := Tups.upd h1 trivial
      have S1 : Same H (upd H' p1 (.lst us.reverse)) := S.upd hq1
      have g1 : upd H' p1 (.lst us.reverse) p1 = some (.lst us.reverse) := upd_same
      have g2 : upd H' p1 (.lst us.reverse) p2 = some (.lst ms.reverse) := by rw [upd_ne n12.symm]; exact h2
      have gw := EpsAt.tups tt hw
      have gT := hrT.tups tt
      have gy := hry.tups tt
      have gm := Reps.tups tt hms
      have hgt : ∀ a ∈ ws, GoodE c ps a.1 := fun a' ha => hge a' (List.mem_cons_of_mem _ ha)
      have hg1 := hge a List.mem_cons_self
      clear hw hrT hry h1 h2 S hms hge
      generalize upd H' p1 (.lst us.reverse) = H2 at *
      refine ⟨r, _, rfl, gT, rfl, _, _, rfl, _, _, rfl, rfl, ?_⟩
      obtain ⟨e, b⟩ := a
      have gy : Rep K H2 e.t y := gy
      have hg1 : GoodE c ps e := hg1
      refine ⟨_, rfl, e.t, y, rfl, gy, _, rfl, ?_⟩
      simp only [List.length_cons] at hul hwl
      -- a leaf
      have leaf : b = false → (e.ren u).t = e.t → 2 ≤ pe1 (e, b) → ∀ z4 z5 z6 z7 z8 : Option V, ∃ (ws' : List (E × Bool)) (us : List V) (M : List E) (ms' : List V) (x4 x5 x6 x7 x8 : Option V), [some v, some (.ref d), some (.ref p1), some (.ref p2), z4, z5, z6, z7, z8] = [some v, some (.ref d), some (.ref p1), some (.ref p2), x4, x5, x6, x7, x8] ∧ Same H (upd H2 p2 (.lst (ms.reverse ++ [y]))) ∧
          upd H2 p2 (.lst (ms.reverse ++ [y])) p1 = some (.lst us.reverse) ∧ EpsAt K (upd H2 p2 (.lst (ms.reverse ++ [y]))) ws' us ∧ upd H2 p2 (.lst (ms.reverse ++ [y])) p2 = some (.lst ms'.reverse) ∧ Reps K (upd H2 p2 (.lst (ms.reverse ++ [y]))) (M.map fun e => (e.ren u).t) ms' ∧ FinE e0 ws' M ∧ (∀ a ∈ ws', GoodE c ps a.1) ∧ M.length + pel ws' ≤ 3 * e0.t.size ∧ pel ws' < pel ((e, b) :: ws) := by
        rintro rfl he1 he2 z4 z5 z6 z7 z8
        have tt4 : Tups H2 (upd H2 p2 (.lst (ms.reverse ++ [y]))) := Tups.upd g2 trivial
        refine ⟨ws, us, e :: M, y :: ms, _, _, _, _, _, rfl, S1.upd hq2, by rw [upd_ne n12]; exact g1, EpsAt.tups tt4 gw, by rw [upd_same]; simp, ?_, hfin, hgt, by rw [List.length_cons]; omega, by omega⟩
        rw [List.map_cons, he1]
        exact .cons (gy.tups tt4) (Reps.tups tt4 gm)
      cases hg1 with
      | @v x hx =>
        have := gy.w_eq
        subst this
        have hb0 : b = false := by
          cases b with
          | false => rfl
          | true => obtain ⟨_, _, _, e9, _⟩ := hfin; cases e9
        refine iteT ⟨_, rfl, .inl ⟨rfl, _, SqL.of g2⟩, _, rfl, p2, _, _, rfl, rfl, g2, by rw [List.length_reverse]; omega, ?_⟩
        exact leaf hb0 rfl (by subst hb0; show 2 ≤ 3 * (T.w x).size - 1; simp [T.size]) _ _ _ _ _
      | @q t =>
        obtain ⟨ya, ys, rfl, hyT, hys⟩ := (show Rep K H2 (.l [.w sQuote, t]) y from gy).l_eq
        obtain ⟨y0, ys, rfl, hy0, hys⟩ := hys.cons_eq
        have := hy0.w_eq
        subst this
        have hb0 : b = false := by
          cases b with
          | false => rfl
          | true => obtain ⟨_, _, _, e9, _⟩ := hfin; cases e9
        refine iteF ⟨_, rfl, ya, _, _, _, rfl, rfl, hyT, at0, rfl, ?_⟩
        rw [decide_eq_true (show V.str sQuote = V.str "quote" from rfl)]
        refine ⟨_, rfl, iteT ⟨_, rfl, .inl ⟨rfl, _, SqL.of g2⟩, _, rfl, p2, _, _, rfl, rfl, g2, by rw [List.length_reverse]; omega, ?_⟩⟩
        exact leaf hb0 rfl (by subst hb0; show 2 ≤ 3 * (E.q t).t.size - 1; have := size_pos (E.q t).t; omega) _ _ _ _ _
      | @app x es hxq hcx hes =>
        have gy9 := gy
        rw [E.t_app] at gy9
        obtain ⟨ya, ys, rfl, hyT, hys⟩ := gy9.l_eq
        obtain ⟨y0, zs, rfl, hy0, hzs⟩ := hys.cons_eq
        have := hy0.w_eq
        subst this
        have hzl := hzs.length
        rw [List.length_map] at hzl
        have hsz := pel_items es
        have elz := app_size x es
        refine iteF ⟨_, rfl, ya, _, _, _, rfl, rfl, hyT, at0, rfl, ?_⟩
        rw [decide_eq_false (show ¬ V.str x = V.str "quote" from fun q => hxq (V.str.inj q))]
        cases b with
        | false =>
          have hfin : FinE e0 ws (.app x es :: M) := hfin
          have e1 : pe1 (E.app x es, false) = 3 * (E.app x es).t.size - 1 := rfl
          refine ⟨_, rfl, iteF ⟨_, rfl, _, rfl, iteT ?_⟩⟩
          refine ⟨_, rfl, .inl ⟨rfl, _, SqL.of g1⟩, _, rfl, (by show 2 ≤ sizeLine; decide), fun c1 hc => ?_⟩
          have nc1 : p1 ≠ c1 := ne_of_none g1 hc
          have nc2 : p2 ≠ c1 := ne_of_none g2 hc
          refine ⟨p1, us.reverse, _, rfl, rfl, (by rw [upd_ne nc1]; exact g1), (by rw [List.length_reverse]; omega), ?_⟩
          have tt1 : Tups H2 (upd (upd H2 c1 (.tup [.ref ya, .bl true])) p1 (.lst (us.reverse ++ [.ref c1]))) := Tups.trans (same_upd hc).tups (Tups.upd (u := .lst us.reverse) (by rw [upd_ne nc1]; exact g1) trivial)
          have S3 : Same H (upd (upd H2 c1 (.tup [.ref ya, .bl true])) p1 (.lst (us.reverse ++ [.ref c1]))) := (S1.upd (S1.free hc)).upd hq1
          have j1 : upd (upd H2 c1 (.tup [.ref ya, .bl true])) p1 (.lst (us.reverse ++ [.ref c1])) p1 = some (.lst (us.reverse ++ [.ref c1])) := upd_same
          have j2 : upd (upd H2 c1 (.tup [.ref ya, .bl true])) p1 (.lst (us.reverse ++ [.ref c1])) p2 = some (.lst ms.reverse) := by rw [upd_ne n12.symm, upd_ne nc2]; exact g2
          have jc : upd (upd H2 c1 (.tup [.ref ya, .bl true])) p1 (.lst (us.reverse ++ [.ref c1])) c1 = some (.tup [.ref ya, .bl true]) := by rw [upd_ne nc1.symm, upd_same]
          have jw := EpsAt.tups tt1 gw
          have jT := hyT.tups tt1
          have js := Reps.tups tt1 hzs
          have jm := Reps.tups tt1 gm
          have jy := gy.tups tt1
          clear gw gT gy g1 g2 S1 tt1 gm leaf gy9
          generalize upd (upd H2 c1 (.tup [.ref ya, .bl true])) p1 (.lst (us.reverse ++ [.ref c1])) = H3 at *
          refine ⟨_, rfl, .inl ⟨rfl, _, SqL.of j1⟩, _, rfl, _, rfl, ya, _, rfl, jT, fun sa H30 S30 hsa => ?_⟩
          have ecut : cutV (V.str x :: zs) (some 1) none = zs := cutV_drop _ 1
          rw [ecut] at hsa
          have js := js.same S30
          have jm := jm.same S30
          have jw := EpsAt.tups S30.tups jw
          have jy := jy.same S30
          have j1 := S30 _ _ j1
          have j2 := S30 _ _ j2
          have jc := S30 _ _ jc
          have S3 := S3.trans S30
          refine ⟨sa, rfl, ⟨zs, hsa⟩, fun D hD => ?_⟩
          refine lc_tup (xs := zs) (fun i H' => ∃ cs : List V, Same H30 H' ∧ H' D = some (.lst cs) ∧ EpsAt K H' ((es.take i).map fun e => (e, false)) cs ∧ cs.length = i) ⟨[], same_upd hD, upd_same, .nil, rfl⟩ (fun i H' _ h => by obtain ⟨cs, S, _⟩ := h; exact hsa.same S) ?_ ?_
          · rintro i z H' hx ⟨cs, S, d1, d2, d3⟩
            obtain ⟨tx, htx, hxr⟩ := js.getV hx
            rw [List.getElem?_map, Option.map_eq_some_iff] at htx
            obtain ⟨ex, hex, rfl⟩ := htx
            have hi := (List.getElem?_eq_some_iff.mp hex).1
            have hesl : es.length ≤ 3 * 1000000 := by omega
            refine ⟨rfl, ?_⟩
            refine ⟨_, rfl, (by show 2 ≤ sizeLine; decide), fun b hb => ⟨cs, by rw [upd_ne (ne_of_none d1 hb)]; exact d1, by omega, ?_⟩⟩
            have Sb := same_upd (o := .tup [z, .bl false]) hb
            have d1' : upd H' b (.tup [z, .bl false]) D = some (.lst cs) := Sb _ _ d1
            have ttD : Tups (upd H' b (.tup [z, .bl false])) (upd (upd H' b (.tup [z, .bl false])) D (.lst (cs ++ [.ref b]))) := Tups.upd d1' trivial
            refine ⟨cs ++ [.ref b], (S.trans Sb).upd hD, upd_same, ?_, by rw [List.length_append, d3]; rfl⟩
            have et : es.take (i + 1) = es.take i ++ [ex] := by rw [List.take_succ, hex]; rfl
            rw [et, List.map_append]
            refine (EpsAt.tups ttD (EpsAt.tups Sb.tups d2)).append (.cons ⟨b, z, rfl, SqT.of (by rw [upd_ne (ne_of_none d1 hb).symm, upd_same]), ?_⟩ .nil)
            exact ((hxr.same S).same Sb).tups ttD
          · rintro H4 ⟨cs, S, d1, d2, d3⟩
            rw [hzl, List.take_length] at d2
            rw [hzl] at d3
            have k1 := S _ _ j1
            have hesl : es.length ≤ 3 * 1000000 := by omega
            refine ⟨p1, D, _, cs, rfl, rfl, k1, d1, by rw [List.length_append, List.length_reverse, List.length_singleton]; omega, ?_⟩
            have tt5 : Tups H4 (upd H4 p1 (.lst (us.reverse ++ [.ref c1] ++ cs))) := Tups.upd k1 trivial
            refine ⟨es.reverse.map (fun e => (e, false)) ++ (.app x es, true) :: ws, cs.reverse ++ .ref c1 :: us, M, ms, _, _, _, _, _, rfl, (S3.trans S).upd hq1, by rw [upd_same]; simp, ?_, by rw [upd_ne n12.symm]; exact S _ _ j2, (jm.same S).tups tt5, finE_items ⟨x, es, M, rfl, rfl, hfin⟩, ?_, ?_, ?_⟩
            · rw [List.map_reverse]
              exact (EpsAt.tups tt5 d2).reverse.append (.cons ⟨c1, .ref ya, rfl, SqT.of (by rw [upd_ne nc1.symm]; exact S _ _ jc), (jy.same S).tups tt5⟩ (EpsAt.tups tt5 (EpsAt.tups S.tups jw)))
            · intro a ha
              rcases List.mem_append.mp ha with ha | ha
              · obtain ⟨e', he', rfl⟩ := List.mem_map.mp ha
                exact hes e' (List.mem_reverse.mp he')
              · rcases List.mem_cons.mp ha with rfl | ha
                · exact .app hxq hcx hes
                · exact hgt a ha
            · rw [pel_append, pel_cons]
              have e2 : pe1 (E.app x es, true) = es.length + 1 := rfl
              omega
            · rw [pel_append, pel_cons]
              have e2 : pe1 (E.app x es, true) = es.length + 1 := rfl
              omega
        | true =>
          obtain ⟨x', es', M', e9, rfl, hfin⟩ := hfin
          cases e9
          have e1 : pe1 (E.app x es, true) = es.length + 1 := rfl
          refine ⟨_, rfl, iteF ⟨_, rfl, _, rfl, iteF ?_⟩⟩
          have hesl : es.length ≤ 3 * 1000000 := by omega
          rw [List.length_append] at hM hml
          have hms1 : Reps K H2 (es.map fun e => (e.ren u).t) (ms.take es.length) ∧ Reps K H2 (M'.map fun e => (e.ren u).t) (ms.drop es.length) := by
            have h1 := gm.take es.length
            have h2 := gm.drop es.length
            rw [List.map_append, List.take_left' (by rw [List.length_map])] at h1
            rw [List.map_append, List.drop_left' (by rw [List.length_map])] at h2
            exact ⟨h1, h2⟩
          refine ⟨_, rfl, ya, _, _, _, rfl, rfl, hyT, at0, aS, _, rfl, .inr (TSp.at_ _), rfl, flat_strs _, _, rfl, ?_⟩
          rw [inV_spec]
          cases hsp : (special x).isSome
          · have hsn : special x = none := by
              cases e : special x with
              | none => rfl
              | some n => rw [e] at hsp; cases hsp
            have hdg : DGet H2 d (.str x) (some (.str (u x))) := by rw [← hu7 x (by rw [hcx]; rfl) hsn]; exact DGet.k (k := .inr x) (S1 _ _ hd)
            refine iteF ⟨_, rfl, _, rfl, ya, _, _, _, rfl, rfl, hyT, at0, d, _, rfl, hdg, ?_⟩
            refine ⟨_, rfl, .inl ⟨rfl, _, SqL.of g2⟩, _, rfl, (by show 1 ≤ sizeLine; decide), fun t1 ht1 => ?_⟩
            have T1 := same_upd (o := .tup [.str (u x)]) ht1
            have hT1 : SqT K (upd H2 t1 (.tup [.str (u x)])) t1 [.str (u x)] := SqT.of upd_same
            have g21 := T1 _ _ g2
            have g11 := T1 _ _ g1
            have gw1 := EpsAt.tups T1.tups gw
            have hyT1 := hyT.same T1
            have hm1 := hms1.1.same T1
            have hm2 := hms1.2.same T1
            have S11 := S1.trans T1
            clear gw gT gy g1 g2 gm hyT hys hzs hy0 S1
            generalize upd H2 t1 (.tup [.str (u x)]) = H21 at *
            refine ⟨_, rfl, _, rfl, ya, _, rfl, hyT1, fun sa H30 S30 hsa => ?_⟩
            have ecut : cutV (V.str x :: zs) (some 1) none = zs := cutV_drop _ 1
            rw [ecut] at hsa
            have g22 := S30 _ _ g21
            refine ⟨sa, rfl, ⟨zs, hsa⟩, fun D hD => ?_⟩
            have nD2 : p2 ≠ D := ne_of_none g22 hD
            have noT : NoTup [p2] H30 := fun b hb => by
              rw [List.mem_singleton.mp hb, g22]
              exact ⟨(fun _ q => by cases q), (fun _ _ q => by cases q)⟩
            refine lc_tup (xs := zs) (fun i H' => Kp [p2] H30 H' ∧ H' p2 = some (.lst (ms.drop i).reverse) ∧ H' D = some (.lst (ms.take i))) ⟨Kp.of_same (same_upd hD), by rw [upd_ne nD2]; exact g22, upd_same⟩ (fun i H' _ h => hsa.tups (h.1.tups noT)) ?_ ?_
            · rintro i z H' hx ⟨d1, d2, d3⟩
              have hi : i < es.length := by
                have := (List.getElem?_eq_some_iff.mp hx).1
                omega
              obtain ⟨n, hn⟩ : ∃ n, ms[i]? = some n := ⟨_, List.getElem?_eq_getElem (by omega)⟩
              have hdr : ms.drop i = n :: ms.drop (i + 1) := by
                have h0 : i < ms.length := by omega
                rw [List.drop_eq_getElem_cons h0]
                rw [List.getElem?_eq_getElem h0] at hn
                rw [Option.some.inj hn]
              have htk : ms.take (i + 1) = ms.take i ++ [n] := by rw [List.take_succ, hn]; rfl
              rw [hdr] at d2
              refine ⟨rfl, ?_⟩
              refine ⟨_, rfl, .inl ⟨rfl, _, SqL.of d2⟩, p2, _, _, rfl, rfl, d2, rev_last _ _, ?_⟩
              rw [dropLast_rev]
              exact ⟨_, by rw [upd_ne nD2.symm]; exact d3, by rw [List.length_take]; omega, (d1.upd (.inl (by simp))).upd (.inr hD), by rw [upd_ne nD2, upd_same], by rw [upd_same, htk]⟩
            · rintro H4 ⟨d1, d2, d3⟩
              rw [hzl] at d2 d3
              have tt4 : Tups H30 H4 := d1.tups noT
              have i1 := d1.keep p1 _ (by simpa using n12) (S30 _ _ g11)
              have hD0 := (S11.trans S30).free hD
              refine ⟨D, _, rfl, SqL.of d3, fun l H5 S5 hT => ?_⟩
              have hln : (ms.take es.length).length = es.length := by rw [List.length_take]; omega
              refine ⟨t1, l, _, _, rfl, rfl, (SqT.tups tt4 (hT1.same S30)).same S5, hT, by rw [hln]; show 1 + es.length ≤ sizeLine; omega, fun rr H6 S6 hr' => ?_⟩
              have S56 := S5.trans S6
              have l2 := S56 _ _ d2
              have hdl : (ms.drop es.length).length = M'.length := by rw [List.length_drop]; omega
              refine ⟨p2, _, _, rfl, rfl, l2, by rw [List.length_reverse]; omega, ?_⟩
              have tt6 : Tups H6 (upd H6 p2 (.lst ((ms.drop es.length).reverse ++ [.ref rr]))) := Tups.upd l2 trivial
              have kpA : Kp [p2] H H6 := ((Kp.of_same (S11.trans S30)).trans d1).trans (Kp.of_same S56)
              have SA : Same H H6 := fun z uu hz => kpA.keep z uu (fun q => by rw [List.mem_singleton.mp q, hq2] at hz; cases hz) hz
              have tt : Tups H21 H6 := (S30.tups.trans tt4).trans S56.tups
              refine ⟨ws, us, .app x es :: M', .ref rr :: ms.drop es.length, _, _, _, _, _, rfl, SA.upd hq2, by rw [upd_ne n12]; exact S56 _ _ i1, EpsAt.tups tt6 (EpsAt.tups tt gw1), by rw [upd_same]; simp, ?_, hfin, hgt, by rw [List.length_cons]; omega, by omega⟩
              rw [List.map_cons, ren_app, hsp]
              exact .cons (Rep.l (hr'.tups tt6) (.cons .w (Reps.tups tt6 (Reps.tups tt hm1)))) (Reps.tups tt6 (Reps.tups tt hm2))
          · refine iteT ⟨_, rfl, ya, _, _, _, rfl, rfl, hyT, at0, ?_⟩
            refine ⟨_, rfl, .inl ⟨rfl, _, SqL.of g2⟩, _, rfl, (by show 1 ≤ sizeLine; decide), fun t1 ht1 => ?_⟩
            have T1 := same_upd (o := .tup [.str (x)]) ht1
            have hT1 : SqT K (upd H2 t1 (.tup [.str (x)])) t1 [.str (x)] := SqT.of upd_same
            have g21 := T1 _ _ g2
            have g11 := T1 _ _ g1
            have gw1 := EpsAt.tups T1.tups gw
            have hyT1 := hyT.same T1
            have hm1 := hms1.1.same T1
            have hm2 := hms1.2.same T1
            have S11 := S1.trans T1
            clear gw gT gy g1 g2 gm hyT hys hzs hy0 S1
            generalize upd H2 t1 (.tup [.str (x)]) = H21 at *
            refine ⟨_, rfl, _, rfl, ya, _, rfl, hyT1, fun sa H30 S30 hsa => ?_⟩
            have ecut : cutV (V.str x :: zs) (some 1) none = zs := cutV_drop _ 1
            rw [ecut] at hsa
            have g22 := S30 _ _ g21
            refine ⟨sa, rfl, ⟨zs, hsa⟩, fun D hD => ?_⟩
            have nD2 : p2 ≠ D := ne_of_none g22 hD
            have noT : NoTup [p2] H30 := fun b hb => by
              rw [List.mem_singleton.mp hb, g22]
              exact ⟨(fun _ q => by cases q), (fun _ _ q => by cases q)⟩
            refine lc_tup (xs := zs) (fun i H' => Kp [p2] H30 H' ∧ H' p2 = some (.lst (ms.drop i).reverse) ∧ H' D = some (.lst (ms.take i))) ⟨Kp.of_same (same_upd hD), by rw [upd_ne nD2]; exact g22, upd_same⟩ (fun i H' _ h => hsa.tups (h.1.tups noT)) ?_ ?_
            · rintro i z H' hx ⟨d1, d2, d3⟩
              have hi : i < es.length := by
                have := (List.getElem?_eq_some_iff.mp hx).1
                omega
              obtain ⟨n, hn⟩ : ∃ n, ms[i]? = some n := ⟨_, List.getElem?_eq_getElem (by omega)⟩
              have hdr : ms.drop i = n :: ms.drop (i + 1) := by
                have h0 : i < ms.length := by omega
                rw [List.drop_eq_getElem_cons h0]
                rw [List.getElem?_eq_getElem h0] at hn
                rw [Option.some.inj hn]
              have htk : ms.take (i + 1) = ms.take i ++ [n] := by rw [List.take_succ, hn]; rfl
              rw [hdr] at d2
              refine ⟨rfl, ?_⟩
              refine ⟨_, rfl, .inl ⟨rfl, _, SqL.of d2⟩, p2, _, _, rfl, rfl, d2, rev_last _ _, ?_⟩
              rw [dropLast_rev]
              exact ⟨_, by rw [upd_ne nD2.symm]; exact d3, by rw [List.length_take]; omega, (d1.upd (.inl (by simp))).upd (.inr hD), by rw [upd_ne nD2, upd_same], by rw [upd_same, htk]⟩
            · rintro H4 ⟨d1, d2, d3⟩
              rw [hzl] at d2 d3
              have tt4 : Tups H30 H4 := d1.tups noT
              have i1 := d1.keep p1 _ (by simpa using n12) (S30 _ _ g11)
              have hD0 := (S11.trans S30).free hD
              refine ⟨D, _, rfl, SqL.of d3, fun l H5 S5 hT => ?_⟩
              have hln : (ms.take es.length).length = es.length := by rw [List.length_take]; omega
              refine ⟨t1, l, _, _, rfl, rfl, (SqT.tups tt4 (hT1.same S30)).same S5, hT, by rw [hln]; show 1 + es.length ≤ sizeLine; omega, fun rr H6 S6 hr' => ?_⟩
              have S56 := S5.trans S6
              have l2 := S56 _ _ d2
              have hdl : (ms.drop es.length).length = M'.length := by rw [List.length_drop]; omega
              refine ⟨p2, _, _, rfl, rfl, l2, by rw [List.length_reverse]; omega, ?_⟩
              have tt6 : Tups H6 (upd H6 p2 (.lst ((ms.drop es.length).reverse ++ [.ref rr]))) := Tups.upd l2 trivial
              have kpA : Kp [p2] H H6 := ((Kp.of_same (S11.trans S30)).trans d1).trans (Kp.of_same S56)
              have SA : Same H H6 := fun z uu hz => kpA.keep z uu (fun q => by rw [List.mem_singleton.mp q, hq2] at hz; cases hz) hz
              have tt : Tups H21 H6 := (S30.tups.trans tt4).trans S56.tups
              refine ⟨ws, us, .app x es :: M', .ref rr :: ms.drop es.length, _, _, _, _, _, rfl, SA.upd hq2, by rw [upd_ne n12]; exact S56 _ _ i1, EpsAt.tups tt6 (EpsAt.tups tt gw1), by rw [upd_same]; simp, ?_, hfin, hgt, by rw [List.length_cons]; omega, by omega⟩
              rw [List.map_cons, ren_app, hsp]
              exact .cons (Rep.l (hr'.tups tt6) (.cons .w (Reps.tups tt6 (Reps.tups tt hm1)))) (Reps.tups tt6 (Reps.tups tt hm2))
end
end K46
/-! making: check_inputs, renamed, joined. -/
namespace K46
open PySem PySem.Spec PyProof.Rows L2

def uOf (p : Prog) (k : Nat) : Str → Str := fun g => fname (k + p.findIdx fun f => decide (f.name = g))
def renP (p : Prog) (k : Nat) : Prog := p.map fun fn => ⟨uOf p k fn.name, fn.ps, fn.body.ren (uOf p k)⟩
def joinL : Nat → List Prog → Prog
  | _, [] => []
  | k, p :: ps => renP p k ++ joinL (k + p.length) ps
def mainsL : Nat → List Prog → List Str
  | _, [] => []
  | k, p :: ps => fname k :: mainsL (k + p.length) ps
theorem renP_length (p : Prog) (k : Nat) : (renP p k).length = p.length := List.length_map ..
theorem joinL_length : ∀ (k : Nat) (ps : List Prog), (joinL k ps).length = (ps.map List.length).sum
  | _, [] => rfl
  | k, p :: ps => by rw [joinL, List.length_append, renP_length, joinL_length, List.map_cons, List.sum_cons]
theorem findIdx_name {p : Prog} (nd : (p.map (·.name)).Nodup) {i : Nat} {fn : Fn} (h : p[i]? = some fn) : p.findIdx (fun f => decide (f.name = fn.name)) = i := by
  obtain ⟨h1, h2⟩ := List.getElem?_eq_some_iff.mp h
  rw [List.findIdx_eq h1]
  refine ⟨by rw [h2]; exact decide_eq_true rfl, fun j hj => ?_⟩
  refine decide_eq_false fun q => ?_
  have := List.pairwise_iff_getElem.mp nd j i (by rw [List.length_map]; omega) (by rw [List.length_map]; omega) hj
  rw [List.getElem_map, List.getElem_map, h2] at this
  exact this q
theorem uOf_at {p : Prog} (nd : (p.map (·.name)).Nodup) (k : Nat) {i : Nat} {fn : Fn} (h : p[i]? = some fn) : uOf p k fn.name = fname (k + i) := by
  unfold uOf; rw [findIdx_name nd h]

def spCheckInputs (K : PySem.W.Frag) : Sp := fun vs H Q _ => ∃ (b : Addr) (ys : List V) (ps : List Prog) (m : Nat), vs = [.ref b, vint m] ∧ H b = some (.lst ys) ∧ Reps K H (ps.map progT) ys ∧ (∀ p ∈ ps, Good p ∧ ∃ g r, p = g :: r ∧ g.ps.length = m) ∧ m ≤ 8 ∧ ∀ H', Same H H' → Q .non H'
def spRenamed (K : PySem.W.Frag) : Sp := fun vs H Q _ => ∃ (v : V) (p : Prog) (k : Nat), vs = [v, vint k] ∧ Rep K H (progT p) v ∧ Good p ∧ k + p.length < 100 ∧ Ret K H Q (.l ((renP p k).map Fn.t))
abbrev sCheckInputs : Stmt := top 42
theorem sc_sCheckInputs : FnScope ["programs", "many", "program"] ["programs", "many"] (defScope sCheckInputs) := ⟨rfl, rfl, rfl, by decide +kernel, rfl, by decide +kernel, by decide +kernel⟩
abbrev sRenamed : Stmt := top 44
theorem sc_sRenamed : FnScope ["program", "start", "names", "number", "name", "parameters", "body"] ["program", "start"] (defScope sRenamed) := ⟨rfl, rfl, rfl, by decide +kernel, rfl, by decide +kernel, by decide +kernel⟩
section
variable {P : Program} {w : World} {K : PySem.W.Frag} {mg : Str → Option Value} {base : Heap}
theorem ok_checkInputs {f fC fI : Addr} {fd fdC fdI : FuncData} (B : Bl mg) (hM : ∃ t, mg "MOST_INPUTS" = some (.int 8 t)) (D : Dfn K mg "check_inputs" sCheckInputs ["programs", "many"] f fd)
    (DC : Dfn K mg "check_program" sCheckProgram ["value"] fC fdC) (GC : FnOk P w K mg base CX0 5 fC fdC ["value"] (spCheckProgram K))
    (DI : Dfn K mg "inputs_of" sInputsOf ["program"] fI fdI) (GI : FnOk P w K mg base CX0 5 fI fdI ["program"] (spInputsOf K)) : FnOk P w K mg base CX0 6 f fd ["programs", "many"] (spCheckInputs K) := by
  refine D.F.ok sc_sCheckInputs (fun vs H Q XE h => ?_) (fun cdv AA outer st H vs Q XE hr h => ?_)
  · obtain ⟨b, ys, ps, m, rfl, _⟩ := h
    rfl
  · obtain ⟨b, ys, ps, m, rfl, hb, hys, hps, hm, k⟩ := h
    have nd := sc_sCheckInputs.nd
    obtain ⟨tM, eM⟩ := hM
    refine ⟨_,
      (pss_cons (ps_for PassesOwn.never rfl (pi_list (pv 0)) (pg_name (i := 2) nd rfl (.inl rfl))
      (pss_one (ps_expr (pe_call GC hr (by rfl) DC.g DC.F.kp DC.b .nil pass0 (pa_cons (pv 2) pa_nil)))))
      (pss_one (ps_for PassesOwn.never rfl (pi_list (pv 0)) (pg_name (i := 2) nd rfl (.inl rfl))
      (pss_one (ps_if (PW.pt (pw_or (pt_cmpR op_ne (pe_call GI hr (by rfl) DI.g DI.F.kp DI.b .nil pass0 (pa_cons (pv 2) pa_nil)) (pv 1) (nomark _)) (pw_or1 (pt_cmpR op_gt (pv 1) (pe_glob (v := .int 8) (by rfl) eM ⟨_, rfl⟩) (nomark _)))))
      pss_never
      pss_nil)))))
      , ?_⟩
    refine ⟨_, rfl, b, rfl, ⟨ys, SqL.of hb⟩, ?_⟩
    refine for_list (xs := ys) (fun i σ' H' => ∃ x2 : Option V, σ' = [some (.ref b), some (vint m), x2] ∧ Same H H') ⟨_, rfl, Same.refl H⟩ ?_ ?_ ?_
    · rintro i σ' H' _ ⟨x2, rfl, S⟩
      exact SqL.of (S _ _ hb)
    · rintro i x σ' H' hx ⟨x2, rfl, S⟩
      obtain ⟨t, ht, hxr⟩ := hys.getV hx
      rw [List.getElem?_map, Option.map_eq_some_iff] at ht
      obtain ⟨p, hp, rfl⟩ := ht
      obtain ⟨hg, g, r, rfl, hgl⟩ := hps p (List.mem_of_getElem? hp)
      exact ⟨_, rfl, x, g :: r, rfl, hxr.same S, hg, fun H2 S2 => ⟨_, rfl, S.trans S2⟩⟩
    · rintro σ' H1 ⟨x2, rfl, S1⟩
      refine ⟨_, rfl, b, rfl, ⟨ys, SqL.of (S1 _ _ hb)⟩, ?_⟩
      refine for_list (xs := ys) (fun i σ' H' => ∃ x2 : Option V, σ' = [some (.ref b), some (vint m), x2] ∧ Same H H') ⟨_, rfl, S1⟩ ?_ ?_ ?_
      · rintro i σ' H' _ ⟨x2, rfl, S⟩
        exact SqL.of (S _ _ hb)
      · rintro i x σ' H' hx ⟨x2, rfl, S⟩
        obtain ⟨t, ht, hxr⟩ := hys.getV hx
        rw [List.getElem?_map, Option.map_eq_some_iff] at ht
        obtain ⟨p, hp, rfl⟩ := ht
        obtain ⟨hg, g, r, rfl, hgl⟩ := hps p (List.mem_of_getElem? hp)
        refine ⟨_, rfl, x, g, r, rfl, hxr.same S, hg, fun H2 S2 => ⟨_, rfl, rfl, ?_⟩⟩
        rw [decide_eq_true (show V.int ((g.ps.length : Nat) : Int) = V.int ((m : Nat) : Int) by rw [hgl])]
        refine ⟨_, rfl, iteF ⟨_, rfl, _, _, rfl, rfl, _, rfl, ?_⟩⟩
        rw [decide_eq_false (show ¬ ((8 : Int) < ((m : Nat) : Int)) by omega)]
        exact iteF ⟨_, rfl, S.trans S2⟩
      · rintro σ' H2 ⟨x2, rfl, S⟩
        exact k H2 S
theorem ok_renamed {f fC fN fE : Addr} {fd fdC fdN fdE : FuncData} (B : Bl mg) (D : Dfn K mg "renamed" sRenamed ["program", "start"] f fd)
    (DC : Dfn K mg "check_program" sCheckProgram ["value"] fC fdC) (GC : FnOk P w K mg base CX0 5 fC fdC ["value"] (spCheckProgram K))
    (DN : Dfn K mg "made_name" sMadeName ["number"] fN fdN) (GN : FnOk P w K mg base CX0 5 fN fdN ["number"] spMadeName)
    (DE : Dfn K mg "renamed_expression" sRenExpr ["expression", "names"] fE fdE) (GE : FnOk P w K mg base CX0 5 fE fdE ["expression", "names"] (spRenExpr K)) : FnOk P w K mg base CX0 6 f fd ["program", "start"] (spRenamed K) := by
  refine D.F.ok sc_sRenamed (fun vs H Q XE h => ?_) (fun cdv AA outer st H vs Q XE hr h => ?_)
  · obtain ⟨v, p, k, rfl, _⟩ := h
    rfl
  · obtain ⟨v, p, st0, rfl, hv, hp, hlen, k⟩ := h
    have nd := sc_sRenamed.nd
    have hu := hu_of hr
    refine ⟨_,
      (pss_cons (ps_expr (pe_call GC hr (by rfl) DC.g DC.F.kp DC.b .nil pass0 (pa_cons (pv 0) pa_nil)))
      (pss_cons (ps_set (i := 2) nd rfl (.inr rfl) pe_dnewK)
      (pss_cons (ps_for PassesOwn.never rfl (pi_enumT (by rfl) B.enumerate (pa_cons (pv 0) pa_nil)) (pg_tup (by rfl) (pgs_cons (pg_name (i := 3) nd rfl (.inl rfl)) (pgs_cons (pg_tup (by rfl) (pgs_cons (pg_name (i := 4) nd rfl (.inl rfl)) (pgs_cons (pg_name (i := 5) nd rfl (.inl rfl)) (pgs_cons (pg_name (i := 6) nd rfl (.inl rfl)) pgs_nil)))) pgs_nil)))
      (pss_one (ps_dput hu (pv 2) (pv 4) (pe_call GN hr (by rfl) DN.g DN.F.kp DN.b .nil pass0 (pa_cons (pe_op op_add (pv 1) (pv 3)) pa_nil)) rfl)))
      (pss_one (ps_ret (pe_callTy call_tupOf (by rfl) B.tuple PyProof.Rows.boot_tuple (pa_cons (pe_lc (own := [("name", 4), ("parameters", 5), ("body", 6)]) (g := gTup K 3 (gCons (gName 4) (gCons (gName 5) (gCons (gName 6) gNil)))) (tt := tYes) (by rfl) nd (pi_tup (pv 0)) (blkOk_by (own := [("name", 4), ("parameters", 5), ("body", 6)]) (N := ["program", "start", "names", "number", "name", "parameters", "body"]) (sc := defScope sRenamed) (by decide +kernel)) (fun _ _ _ _ _ => by exact (pg_tup (by rfl) (pgs_cons (pg_name (i := 4) nd rfl (Or.inl rfl)) (pgs_cons (pg_name (i := 5) nd rfl (Or.inl rfl)) (pgs_cons (pg_name (i := 6) nd rfl (Or.inl rfl)) pgs_nil))))) (fun _ _ _ _ _ => by exact pts_nil) (fun _ _ _ _ _ => by exact (pe_tup (pa_cons (pe_dget hu (pv 2) (pv 4) (fun _ _ => rfl)) (pa_cons (pv 5) (pa_cons (pe_call GE hr (by rfl) DE.g DE.F.kp DE.b .nil pass0 (pa_cons (pv 6) (pa_cons (pv 2) pa_nil))) pa_nil)))))) pa_nil)))))))
      , ?_⟩
    have hs : sizeLine = 16777216 := rfl
    refine ⟨_, rfl, v, p, rfl, hv, hp, fun H1 S1 => fun d hd => ?_⟩
    have hple := hp.le
    obtain ⟨a, xs, rfl, hT, hxs⟩ := (show Rep K H (.l (p.map Fn.t)) v from hv).l_eq
    have hxl := hxs.length
    rw [List.length_map] at hxl
    have hd0 : H d = none := S1.free hd
    have S2 : Same H (upd H1 d (.dK [])) := S1.upd hd0
    refine ⟨_, rfl, a, _, rfl, hT.same S2, ?_⟩
    refine for_F (fun i σ' H' => ∃ (kvs : List (Key × V)) (x3 x4 x5 x6 : Option V), σ' = [some (.ref a), some (vint st0), some (.ref d), x3, x4, x5, x6] ∧ Same H H' ∧ H' d = some (.dK kvs) ∧ kvs.length ≤ i ∧ ∀ fn ∈ p.take i, valV kvs (.inr fn.name) = some (.str (uOf p st0 fn.name))) ?_ ?_ ?_ ?_
    · exact ⟨[], _, _, _, _, rfl, S2, upd_same, Nat.zero_le _, fun _ h => nomatch h⟩
    · rintro i σ' H' hi ⟨kvs, x3, x4, x5, x6, rfl, S, _⟩
      exact hT.same S
    · rintro i vs' T0 σ' H' hi ⟨z, hz, rfl⟩ ⟨kvs, x3, x4, x5, x6, rfl, S, c1, c2, c3⟩ hT0
      obtain ⟨t, ht, hyr⟩ := hxs.getV hz
      rw [List.getElem?_map, Option.map_eq_some_iff] at ht
      obtain ⟨g, hg, rfl⟩ := ht
      have hgi := (List.getElem?_eq_some_iff.mp hg).1
      have m1 : d ≠ T0 := ne_of_none c1 hT0
      have S3 : Same H (upd H' T0 (.tup [vint i, z])) := S.upd (S.free hT0)
      have k1 : upd H' T0 (.tup [vint i, z]) d = some (.dK kvs) := by rw [upd_ne m1]; exact c1
      obtain ⟨ya, ys, rfl, hyT, hys⟩ := (hyr.same S3).l_eq
      obtain ⟨y0, r0, rfl, e0, hys⟩ := hys.cons_eq
      obtain ⟨y1, r1, rfl, e1, hys⟩ := hys.cons_eq
      obtain ⟨y2, r2, rfl, e2, hys⟩ := hys.cons_eq
      have e3 := hys.nil_eq
      subst e3
      have e0 := e0.w_eq
      subst e0
      refine ⟨T0, _, rfl, SqT.of upd_same, rfl, _, _, rfl, _, _, rfl, ya, _, rfl, hyT, rfl, _, _, rfl, _, _, rfl, _, _, rfl, rfl, rfl, ?_⟩
      refine ⟨_, rfl, _, rfl, _, _, rfl, rfl, st0 + i, rfl, by omega, _, rfl, _, rfl, d, _, rfl, DPut.k (k := .inr g.name) k1 (by omega), ?_⟩
      refine ⟨_, _, _, _, _, rfl, S3.upd hd0, upd_same, Nat.le_trans (length_putK _ _ _) (by omega), fun fn hf => ?_⟩
      rw [valV_put]
      rw [List.take_succ, hg] at hf
      by_cases e : fn.name = g.name
      · rw [if_pos (by rw [e]), e, uOf_at hp.nd st0 hg]
      · rw [if_neg (fun z => e (Sum.inr.inj z))]
        rcases List.mem_append.mp hf with hf | hf
        · exact c3 fn hf
        · have := List.mem_singleton.mp hf
          exact absurd (by rw [this]) e
    · rintro σ' H2 ⟨kvs, x3, x4, x5, x6, rfl, S3, c1, c2, c3⟩
      rw [hxl, List.take_length] at c3
      refine ⟨_, rfl, a, rfl, ⟨xs, hT.same S3⟩, fun D hD => ?_⟩
      have hD0 := S3.free hD
      refine lc_tup (xs := xs) (fun i H' => ∃ cs : List V, Same H2 H' ∧ H' D = some (.lst cs) ∧ Reps K H' (((renP p st0).take i).map Fn.t) cs) ⟨[], same_upd hD, upd_same, .nil⟩ (fun i H' _ h => by obtain ⟨cs, S, _⟩ := h; exact (hT.same S3).same S) ?_ ?_
      · rintro i x H' hx ⟨cs, S, d1, d2⟩
        obtain ⟨t, ht, hyr⟩ := hxs.getV hx
        rw [List.getElem?_map, Option.map_eq_some_iff] at ht
        obtain ⟨g, hg, rfl⟩ := ht
        have hgm := List.mem_of_getElem? hg
        have SS := S3.trans S
        obtain ⟨ya, ys, rfl, hyT, hys⟩ := (hyr.same SS).l_eq
        obtain ⟨y0, r0, rfl, e0, hys⟩ := hys.cons_eq
        obtain ⟨y1, r1, rfl, e1, hys⟩ := hys.cons_eq
        obtain ⟨y2, r2, rfl, e2, hys⟩ := hys.cons_eq
        have e3 := hys.nil_eq
        subst e3
        have e0 := e0.w_eq
        subst e0
        have hgi := (List.getElem?_eq_some_iff.mp hg).1
        have hd1 : H' d = some (.dK kvs) := S _ _ c1
        have hdg : DGet H' d (.str g.name) (some (.str (uOf p st0 g.name))) := by rw [← c3 g hgm]; exact DGet.k (k := .inr g.name) hd1
        have hcl := d2.length
        rw [List.length_map, List.length_take, renP_length] at hcl
        have htk : (renP p st0).take (i + 1) = (renP p st0).take i ++ [⟨uOf p st0 g.name, g.ps, g.body.ren (uOf p st0)⟩] := by
          rw [List.take_succ]; unfold renP; rw [List.getElem?_map, hg]; rfl
        refine ⟨ya, _, rfl, hyT, rfl, _, _, rfl, _, _, rfl, _, _, rfl, rfl, rfl, ?_⟩
        refine ⟨_, rfl, _, rfl, d, _, rfl, hdg, _, rfl, _, rfl, _, rfl, y2, d, kvs, g.body, counts p, g.ps, uOf p st0, rfl, e2, hd1, hp.body g hgm, hp.size g hgm, fun z hz1 hz2 => ?_, fun rr H5 S5 hr5 => ⟨(by show 3 ≤ sizeLine; decide), fun c hc => ?_⟩⟩
        · unfold counts at hz1
          rw [hz2] at hz1
          cases hlk : look p z with
          | none => rw [hlk] at hz1; cases hz1
          | some fn =>
            obtain ⟨h1, rfl⟩ := look_mem hlk
            exact c3 fn h1
        · have S6 := same_upd (o := .tup [.str (uOf p st0 g.name), y1, rr]) hc
          have S56 := S5.trans S6
          have d16 := S56 _ _ d1
          have tt : Tups (upd H5 c (.tup [.str (uOf p st0 g.name), y1, rr])) (upd (upd H5 c (.tup [.str (uOf p st0 g.name), y1, rr])) D (.lst (cs ++ [.ref c]))) := Tups.upd d16 trivial
          refine ⟨cs, d16, by omega, cs ++ [.ref c], (S.trans S56).upd hD, upd_same, ?_⟩
          rw [htk, List.map_append]
          refine ((d2.same S56).tups tt).append (.cons ?_ .nil)
          exact Rep.l ((SqT.of upd_same).tups tt) (.cons .w (.cons ((e1.same S56).tups tt) (.cons ((hr5.same S6).tups tt) .nil)))
      · rintro H4 ⟨cs, S, d1, d2⟩
        rw [hxl, List.take_of_length_le (by rw [renP_length]; exact Nat.le_refl _)] at d2
        refine ⟨D, cs, rfl, SqL.of d1, fun l H5 S5 hT5 => ?_⟩
        exact k _ _ ((S3.trans S).trans S5) (Rep.l hT5 (d2.same S5))
end
end K46
/-! making: joined, fill; own: know_own, mirror. -/
namespace K46
open PySem PySem.Spec PyProof.Rows L2

/-- the text of a filled program, over what it is filled with -/
def knowT (fs : List T) (m : Nat) : T := .l (.l [.w (fname fs.length), .l (.w "s" :: (xnames m).map T.w), .l (.w (fname 0) :: treeT (fname fs.length) (fs.length + 1) m :: (xnames m).map T.w)] :: fs)
def spJoined (K : PySem.W.Frag) : Sp := fun vs H Q _ => ∃ (b : Addr) (ys : List V) (ps : List Prog), vs = [.ref b] ∧ H b = some (.lst ys) ∧ Reps K H (ps.map progT) ys ∧ (∀ p ∈ ps, Good p) ∧ (ps.map List.length).sum < 99 ∧
  ∀ (H' : Hp) (r ml : Addr) (vf : V), Same H H' → SqT K H' r [vf, .ref ml] → Rep K H' (.l ((joinL 0 ps).map Fn.t)) vf → H' ml = some (.lst ((mainsL 0 ps).map V.str)) → Q (.ref r) H'
def spFill (K : PySem.W.Frag) : Sp := fun vs H Q _ => ∃ (v v2 : V) (g : Fn) (p : Prog) (t : T) (m : Nat), vs = [v, v2] ∧ Rep K H (progT (g :: p)) v ∧ Rep K H t v2 ∧ Good (g :: p) ∧ g.ps.length = m + 1 ∧ m ≤ 8 ∧ p.length + 1 < 100 ∧ Ret K H Q (.l (fillT g.name (p.length + 1) t m :: (g :: p).map Fn.t))
def spKnowOwn (K : PySem.W.Frag) : Sp := fun vs H Q _ => ∃ (v : V) (g : Fn) (p kn : Prog) (m : Nat), vs = [v] ∧ Rep K H (progT (g :: p)) v ∧ Good (g :: p) ∧ g.ps.length = m + 1 ∧ m ≤ 8 ∧ p.length + 1 < 90 ∧
  Good kn ∧ progT kn = knowT ((renP (g :: p) 0).map Fn.t) m ∧ (∃ h r, kn = h :: r ∧ h.name = fname (p.length + 1) ∧ h.ps.length = m + 1 ∧ r.length = p.length + 1) ∧ Ret K H Q (.l (fillT (fname (p.length + 1)) (p.length + 2) (progT kn) m :: kn.map Fn.t))
def mirT (j n y : Prog) (m : Nat) : T := .l (.l [.w (fname (joinL 0 [j, n, y]).length), .l (.w "s" :: (xnames m).map T.w),
  .l [.w sIf, .l [.w (fname 0), .w "s"], .l (.w (fname (j.length + n.length)) :: (xnames m).map T.w), .l (.w (fname j.length) :: (xnames m).map T.w)]] :: (joinL 0 [j, n, y]).map Fn.t)
def spMirror (K : PySem.W.Frag) : Sp := fun vs H Q _ => ∃ (v1 v2 v3 : V) (j n y : Prog) (m : Nat) (g : Fn) (p kn : Prog), vs = [v1, v2, v3] ∧ Rep K H (progT j) v1 ∧ Rep K H (progT n) v2 ∧ Rep K H (progT y) v3 ∧ Good j ∧ Good n ∧ Good y ∧ j.length + n.length + y.length < 80 ∧
  (∃ h r, j = h :: r ∧ h.ps.length = 1) ∧ (∃ h r, n = h :: r ∧ h.ps.length = m) ∧ (∃ h r, y = h :: r ∧ h.ps.length = m) ∧ m ≤ 8 ∧ progT (g :: p) = mirT j n y m ∧ Good (g :: p) ∧ g.ps.length = m + 1 ∧ p.length = j.length + n.length + y.length ∧
  Good kn ∧ progT kn = knowT ((renP (g :: p) 0).map Fn.t) m ∧ (∃ h r, kn = h :: r ∧ h.name = fname (p.length + 1) ∧ h.ps.length = m + 1 ∧ r.length = p.length + 1) ∧ Ret K H Q (.l (fillT (fname (p.length + 1)) (p.length + 2) (progT kn) m :: kn.map Fn.t))
abbrev sJoined : Stmt := top 45
theorem sc_sJoined : FnScope ["programs", "functions", "mains", "program"] ["programs"] (defScope sJoined) := ⟨rfl, rfl, rfl, by decide +kernel, rfl, by decide +kernel, by decide +kernel⟩
abbrev sFill : Stmt := top 48
theorem sc_sFill : FnScope ["program", "value", "many"] ["program", "value"] (defScope sFill) := ⟨rfl, rfl, rfl, by decide +kernel, rfl, by decide +kernel, by decide +kernel⟩
abbrev sKnowOwn : Stmt := top 53
theorem sc_sKnowOwn : FnScope ["program", "many", "functions", "mains", "main", "tree", "inputs", "knowing"] ["program"] (defScope sKnowOwn) := ⟨rfl, rfl, rfl, by decide +kernel, rfl, by decide +kernel, by decide +kernel⟩
abbrev sMirror : Stmt := top 54
theorem sc_sMirror : FnScope ["judge", "no", "yes", "program", "many", "functions", "mains", "inputs", "body"] ["judge", "no", "yes"] (defScope sMirror) := ⟨rfl, rfl, rfl, by decide +kernel, rfl, by decide +kernel, by decide +kernel⟩
section
variable {P : Program} {w : World} {K : PySem.W.Frag} {mg : Str → Option Value} {base : Heap}
theorem joinL_snoc : ∀ (ps : List Prog) (k : Nat) (p : Prog), joinL k (ps ++ [p]) = joinL k ps ++ renP p (k + (ps.map List.length).sum) ∧ mainsL k (ps ++ [p]) = mainsL k ps ++ [fname (k + (ps.map List.length).sum)]
  | [], k, p => by simp [joinL, mainsL]
  | q :: ps, k, p => by
    obtain ⟨h1, h2⟩ := joinL_snoc ps (k + q.length) p
    rw [List.cons_append, joinL, mainsL, joinL, mainsL, h1, h2, List.map_cons, List.sum_cons, List.append_assoc, List.cons_append, Nat.add_assoc]
    exact ⟨rfl, rfl⟩
theorem ok_joined {f fN fR : Addr} {fd fdN fdR : FuncData} (B : Bl mg) (D : Dfn K mg "joined" sJoined ["programs"] f fd)
    (DN : Dfn K mg "made_name" sMadeName ["number"] fN fdN) (GN : FnOk P w K mg base CX0 6 fN fdN ["number"] spMadeName)
    (DR : Dfn K mg "renamed" sRenamed ["program", "start"] fR fdR) (GR : FnOk P w K mg base CX0 6 fR fdR ["program", "start"] (spRenamed K)) : FnOk P w K mg base CX0 7 f fd ["programs"] (spJoined K) := by
  refine D.F.ok sc_sJoined (fun vs H Q XE h => ?_) (fun cdv AA outer st H vs Q XE hr h => ?_)
  · obtain ⟨b, ys, ps, rfl, _⟩ := h
    rfl
  · obtain ⟨b, ys, ps, rfl, hb, hys, hg, hlen, k⟩ := h
    have nd := sc_sJoined.nd
    refine ⟨_,
      (pss_cons (ps_set (i := 1) nd rfl (.inl rfl) (pe_tup pa_nil))
      (pss_cons (ps_set (i := 2) nd rfl (.inl rfl) (pe_lst pa_nil))
      (pss_cons (ps_for PassesOwn.never rfl (pi_list (pv 0)) (pg_name (i := 3) nd rfl (.inl rfl))
      (pss_cons (ps_expr (pe_bm PySem.F.plainAttrs_list PySem.F.slot_list_append PySem.F.type_list_append mt_append (pv 2) (pa_cons (pe_call GN hr (by rfl) DN.g DN.F.kp DN.b .nil pass0 (pa_cons (pe_callB call_len_seq (by rfl) B.len PySem.boot_len (pa_cons (pv 1) pa_nil)) pa_nil)) pa_nil)))
      (pss_one (ps_set (i := 1) nd rfl (.inl rfl) (pe_op op_catS (pv 1) (pe_call GR hr (by rfl) DR.g DR.F.kp DR.b .nil pass0 (pa_cons (pv 3) (pa_cons (pe_callB call_len_seq (by rfl) B.len PySem.boot_len (pa_cons (pv 1) pa_nil)) pa_nil))))))))
      (pss_one (ps_ret (pe_tup (pa_cons (pv 1) (pa_cons (pv 2) pa_nil))))))))
      , ?_⟩
    have hs : sizeLine = 16777216 := rfl
    refine ⟨(by show 0 ≤ sizeLine; decide), fun e0 he0 => ⟨(by show 0 ≤ sizeLine; decide), fun ml hml => ?_⟩⟩
    have S1 := same_upd (o := .tup []) he0
    have hml0 : H ml = none := S1.free hml
    have S2 : Same H (upd (upd H e0 (.tup [])) ml (.lst [])) := S1.upd hml0
    refine ⟨_, rfl, b, rfl, ⟨ys, SqL.of (S2 _ _ hb)⟩, ?_⟩
    have hysl := hys.length
    rw [List.length_map] at hysl
    refine for_list (xs := ys) (fun i σ' H' => ∃ (vf : V) (x3 : Option V), σ' = [some (.ref b), some vf, some (.ref ml), x3] ∧ Same H H' ∧ Rep K H' (.l ((joinL 0 (ps.take i)).map Fn.t)) vf ∧ H' ml = some (.lst ((mainsL 0 (ps.take i)).map V.str)) ∧ (mainsL 0 (ps.take i)).length ≤ i) ?_ ?_ ?_ ?_
    · refine ⟨.ref e0, _, rfl, S2, Rep.l (SqT.of (by rw [upd_ne (ne_of_none upd_same hml), upd_same])) .nil, upd_same, Nat.zero_le _⟩
    · rintro i σ' H' _ ⟨vf, x3, rfl, S, _⟩
      exact SqL.of (S _ _ hb)
    · rintro i x σ' H' hx ⟨vf, x3, rfl, S, c1, c2, c3⟩
      obtain ⟨t, ht, hxr⟩ := hys.getV hx
      rw [List.getElem?_map, Option.map_eq_some_iff] at ht
      obtain ⟨p, hp, rfl⟩ := ht
      have hpm := List.mem_of_getElem? hp
      have htk : ps.take (i + 1) = ps.take i ++ [p] := by rw [List.take_succ, hp]; rfl
      obtain ⟨hj, hj2⟩ := joinL_snoc (ps.take i) 0 p
      rw [Nat.zero_add] at hj hj2
      have hbound : ((ps.take i).map List.length).sum + p.length ≤ (ps.map List.length).sum := by
        have : ps = ps.take (i + 1) ++ ps.drop (i + 1) := (List.take_append_drop _ _).symm
        have h2 := congrArg (fun l : List Prog => (l.map List.length).sum) this
        simp only [List.map_append, List.sum_append] at h2
        rw [htk, List.map_append, List.sum_append, List.map_cons, List.map_nil, List.sum_cons, List.sum_nil] at h2
        omega
      obtain ⟨fa, fx, rfl, hfT, hfx⟩ := c1.l_eq
      have hfl := hfx.length
      rw [List.length_map, joinL_length] at hfl
      have hips := (List.getElem?_eq_some_iff.mp hp).1
      have hpl : ps.length ≤ (ps.map List.length).sum := by
        clear hys hysl hb hlen hbound hj hj2 htk hp c1 c2 c3 hfx hfl hips hpm k S S2 hxr hx
        induction ps with
        | nil => exact Nat.le_refl _
        | cons q ps ih =>
          have h1 := ih fun p hp => hg p (List.mem_cons_of_mem _ hp)
          have h2 : q.length ≠ 0 := fun z => (hg q List.mem_cons_self).ne (List.length_eq_zero_iff.mp z)
          rw [List.length_cons, List.map_cons, List.sum_cons]
          omega
      refine ⟨_, rfl, .inl ⟨rfl, _, SqL.of c2⟩, _, rfl, fa, _, rfl, .inr hfT, ((ps.take i).map List.length).sum, by rw [hfl]; rfl, by omega, ml, _, _, rfl, rfl, c2, by rw [List.length_map]; omega, ?_⟩
      have tt : Tups H' (upd H' ml (.lst ((mainsL 0 (ps.take i)).map V.str ++ [.str (fname ((ps.take i).map List.length).sum)]))) := Tups.upd c2 trivial
      have S3 : Same H (upd H' ml (.lst ((mainsL 0 (ps.take i)).map V.str ++ [.str (fname ((ps.take i).map List.length).sum)]))) := S.upd hml0
      have c2' : upd H' ml (.lst ((mainsL 0 (ps.take i)).map V.str ++ [.str (fname ((ps.take i).map List.length).sum)])) ml = some (.lst ((mainsL 0 (ps.take (i + 1))).map V.str)) := by
        rw [upd_same, htk, hj2, List.map_append]; rfl
      have hfT := hfT.tups tt
      have hfx := Reps.tups tt hfx
      clear c1 c2 tt
      generalize upd H' ml (.lst ((mainsL 0 (ps.take i)).map V.str ++ [.str (fname ((ps.take i).map List.length).sum)])) = H3 at *
      refine ⟨_, rfl, _, rfl, _, rfl, fa, _, rfl, .inr hfT, x, p, ((ps.take i).map List.length).sum, by rw [hfl]; rfl, hxr.same S3, hg p hpm, by omega, fun r4 H4 S4 hr4 => ?_⟩
      obtain ⟨ra, rx, rfl, hrT, hrx⟩ := hr4.l_eq
      have hrl := hrx.length
      rw [List.length_map, renP_length] at hrl
      refine ⟨fa, ra, _, _, rfl, rfl, hfT.same S4, hrT, by omega, fun q H5 S5 hq5 => ?_⟩
      refine ⟨.ref q, _, rfl, (S3.trans S4).trans S5, ?_, S5 _ _ (S4 _ _ c2'), ?_⟩
      · rw [htk, hj, List.map_append]
        exact Rep.l hq5 (((hfx.same S4).same S5).append (hrx.same S5))
      · rw [htk, hj2, List.length_append, List.length_singleton]; omega
    · rintro σ' H' ⟨vf, x3, rfl, S, c1, c2, c3⟩
      rw [hysl, List.take_length] at c1 c2
      refine ⟨_, rfl, _, rfl, (by show 2 ≤ sizeLine; decide), fun r hr' => ?_⟩
      have S4 := same_upd (o := .tup [vf, .ref ml]) hr'
      exact k _ r ml vf (S.trans S4) (SqT.of upd_same) (c1.same S4) (S4 _ _ c2)
theorem ok_fill {f fC fI fF : Addr} {fd fdC fdI fdF : FuncData} (B : Bl mg) (hM : ∃ t, mg "MOST_INPUTS" = some (.int 8 t)) (D : Dfn K mg "fill" sFill ["program", "value"] f fd)
    (DC : Dfn K mg "check_program" sCheckProgram ["value"] fC fdC) (GC : FnOk P w K mg base CX0 6 fC fdC ["value"] (spCheckProgram K))
    (DI : Dfn K mg "inputs_of" sInputsOf ["program"] fI fdI) (GI : FnOk P w K mg base CX0 6 fI fdI ["program"] (spInputsOf K))
    (DF : Dfn K mg "fill_function" sFillFunction ["main", "number", "value", "many"] fF fdF) (GF : FnOk P w K mg base CX0 6 fF fdF ["main", "number", "value", "many"] (spFillFunction K)) :
    FnOk P w K mg base CX0 7 f fd ["program", "value"] (spFill K) := by
  refine D.F.ok sc_sFill (fun vs H Q XE h => ?_) (fun cdv AA outer st H vs Q XE hr h => ?_)
  · obtain ⟨v, v2, g, p, t, m, rfl, _⟩ := h
    rfl
  · obtain ⟨v, v2, g, p, t, m, rfl, hv, hv2, hg, hgl, hm, hpl, k⟩ := h
    have nd := sc_sFill.nd
    obtain ⟨tM, eM⟩ := hM
    refine ⟨_,
      (pss_cons (ps_expr (pe_call GC hr (by rfl) DC.g DC.F.kp DC.b .nil pass0 (pa_cons (pv 0) pa_nil)))
      (pss_cons (ps_set (i := 2) nd rfl (.inl rfl) (pe_call GI hr (by rfl) DI.g DI.F.kp DI.b .nil pass0 (pa_cons (pv 0) pa_nil)))
      (pss_cons (ps_if (PW.pt (pw_or (pt_cmpR op_eq (pv 2) pe_int (nomark _)) (pw_or1 (pt_cmpR op_gt (pv 2) (pe_op op_add (pe_glob (v := .int 8) (by rfl) eM ⟨_, rfl⟩) pe_int) (nomark _)))))
      pss_never
      pss_nil)
      (pss_one (ps_ret (pe_op op_catS (pe_tup (pa_cons (pe_call GF hr (by rfl) DF.g DF.F.kp DF.b .nil pass0 (pa_cons (pe_ix ix_tup (pe_ix ix_tup (pv 0) pe_int (fun _ _ => rfl)) pe_int (fun _ _ => rfl)) (pa_cons (pe_callB call_len_seq (by rfl) B.len PySem.boot_len (pa_cons (pv 0) pa_nil)) (pa_cons (pv 1) (pa_cons (pe_op op_sub (pv 2) pe_int) pa_nil))))) pa_nil)) (pv 0)))))))
      , ?_⟩
    have hs : sizeLine = 16777216 := rfl
    refine ⟨_, rfl, v, _, rfl, hv, hg, fun H1 S1 => ⟨_, rfl, v, g, p, rfl, hv.same S1, hg, fun H2 S2 => ⟨_, rfl, rfl, ?_⟩⟩⟩
    have S := S1.trans S2
    rw [decide_eq_false (show ¬ V.int ((g.ps.length : Nat) : Int) = V.int 0 from fun q => by have := V.int.inj q; omega)]
    refine ⟨_, rfl, iteF ⟨_, rfl, _, _, rfl, rfl, _, _, rfl, rfl, _, rfl, ?_⟩⟩
    rw [decide_eq_false (show ¬ ((8 : Int) + 1 < ((g.ps.length : Nat) : Int)) by omega)]
    refine iteF ?_
    obtain ⟨va, vxs, rfl, hvT, hvx⟩ := (show Rep K H2 (.l (g.t :: p.map Fn.t)) v from hv.same S).l_eq
    have hvl := hvx.length
    rw [List.length_cons, List.length_map] at hvl
    obtain ⟨v0, vr, rfl, hv0, hvr⟩ := hvx.cons_eq
    obtain ⟨v0a, v0s, rfl, hv0T, hv0x⟩ := hv0.l_eq
    obtain ⟨v00, v0r, rfl, hv00, hv0r⟩ := hv0x.cons_eq
    have := hv00.w_eq
    subst this
    refine ⟨_, rfl, va, _, _, _, rfl, rfl, hvT, at0, v0a, _, _, _, rfl, rfl, hv0T, at0, _, rfl, va, _, rfl, .inr hvT, _, rfl, _, rfl, _, _, rfl, rfl, g.name, p.length + 1, m, v2, t, ?_, hv2.same S, hpl, by omega, fun r3 H3 S3 hr3 => ⟨(by show 1 ≤ sizeLine; decide), fun q hq => ?_⟩⟩
    · rw [hvl, hgl]
      have : (((m + 1 : Nat) : Int) - 1) = ((m : Nat) : Int) := by omega
      show [V.str g.name, vint (p.length + 1), v2, V.int (((m + 1 : Nat) : Int) - 1)] = _
      rw [this]
    · have S4 := same_upd (o := .tup [r3]) hq
      have S34 := S3.trans S4
      refine ⟨_, rfl, q, va, _, _, rfl, rfl, SqT.of upd_same, hvT.same S34, by rw [hvl]; show 1 + (p.length + 1) ≤ sizeLine; omega, fun r5 H5 S5 hr5 => ?_⟩
      have S345 := S34.trans S5
      exact k _ _ (S.trans S345) (Rep.l hr5 (.cons ((hr3.same S4).same S5) (hvx.same S345)))
theorem ok_knowOwn {f fC fI fJ fN fT fP fW fF : Addr} {fd fdC fdI fdJ fdN fdT fdP fdW fdF : FuncData} (B : Bl mg) (hM : ∃ t, mg "MOST_INPUTS" = some (.int 8 t)) (D : Dfn K mg "know_own" sKnowOwn ["program"] f fd)
    (DC : Dfn K mg "check_program" sCheckProgram ["value"] fC fdC) (GC : FnOk P w K mg base CX0 8 fC fdC ["value"] (spCheckProgram K))
    (DI : Dfn K mg "inputs_of" sInputsOf ["program"] fI fdI) (GI : FnOk P w K mg base CX0 8 fI fdI ["program"] (spInputsOf K))
    (DJ : Dfn K mg "joined" sJoined ["programs"] fJ fdJ) (GJ : FnOk P w K mg base CX0 8 fJ fdJ ["programs"] (spJoined K))
    (DN : Dfn K mg "made_name" sMadeName ["number"] fN fdN) (GN : FnOk P w K mg base CX0 8 fN fdN ["number"] spMadeName)
    (DT : Dfn K mg "filled_tree" sFilledTree ["main", "number", "many"] fT fdT) (GT : FnOk P w K mg base CX0 8 fT fdT ["main", "number", "many"] (spFilledTree K))
    (DP : Dfn K mg "made_parameters" sMadeParameters ["many"] fP fdP) (GP : FnOk P w K mg base CX0 8 fP fdP ["many"] (spMadeParameters K))
    (DW : Dfn K mg "with_main" sWithMain ["functions", "parameters", "body"] fW fdW) (GW : FnOk P w K mg base CX0 8 fW fdW ["functions", "parameters", "body"] (spWithMain K))
    (DF : Dfn K mg "fill" sFill ["program", "value"] fF fdF) (GF : FnOk P w K mg base CX0 8 fF fdF ["program", "value"] (spFill K)) :
    FnOk P w K mg base CX0 9 f fd ["program"] (spKnowOwn K) := by
  refine D.F.ok sc_sKnowOwn (fun vs H Q XE h => ?_) (fun cdv AA outer st H vs Q XE hr h => ?_)
  · obtain ⟨v, g, p, kn, m, rfl, _⟩ := h
    rfl
  · obtain ⟨v, g, p, kn, m, rfl, hv, hg, hgl, hm, hpl, hkg, hkt, ⟨hk, rk, rfl, hkn, hkps, hkl⟩, k⟩ := h
    have nd := sc_sKnowOwn.nd
    obtain ⟨tM, eM⟩ := hM
    refine ⟨_,
      (pss_cons (ps_expr (pe_call GC hr (by rfl) DC.g DC.F.kp DC.b .nil pass0 (pa_cons (pv 0) pa_nil)))
      (pss_cons (ps_set (i := 1) nd rfl (.inl rfl) (pe_op op_sub (pe_call GI hr (by rfl) DI.g DI.F.kp DI.b .nil pass0 (pa_cons (pv 0) pa_nil)) pe_int))
      (pss_cons (ps_if (PW.pt (pw_or (pt_cmpR op_lt (pv 1) pe_int (nomark _)) (pw_or1 (pt_cmpR op_gt (pv 1) (pe_glob (v := .int 8) (by rfl) eM ⟨_, rfl⟩) (nomark _)))))
      pss_never
      pss_nil)
      (pss_cons (ps_asg (pe_call GJ hr (by rfl) DJ.g DJ.F.kp DJ.b .nil pass0 (pa_cons (pe_lst (pa_cons (pv 0) pa_nil)) pa_nil)) (pg_tup (by rfl) (pgs_cons (pg_name (i := 2) nd rfl (.inl rfl)) (pgs_cons (pg_name (i := 3) nd rfl (.inl rfl)) pgs_nil))))
      (pss_cons (ps_set (i := 4) nd rfl (.inl rfl) (pe_call GN hr (by rfl) DN.g DN.F.kp DN.b .nil pass0 (pa_cons (pe_callB call_len_seq (by rfl) B.len PySem.boot_len (pa_cons (pv 2) pa_nil)) pa_nil)))
      (pss_cons (ps_set (i := 5) nd rfl (.inl rfl) (pe_call GT hr (by rfl) DT.g DT.F.kp DT.b .nil pass0 (pa_cons (pv 4) (pa_cons (pe_op op_add (pe_callB call_len_seq (by rfl) B.len PySem.boot_len (pa_cons (pv 2) pa_nil)) pe_int) (pa_cons (pv 1) pa_nil)))))
      (pss_cons (ps_set (i := 6) nd rfl (.inl rfl) (pe_call GP hr (by rfl) DP.g DP.F.kp DP.b .nil pass0 (pa_cons (pv 1) pa_nil)))
      (pss_cons (ps_set (i := 7) nd rfl (.inl rfl) (pe_call GW hr (by rfl) DW.g DW.F.kp DW.b .nil pass0 (pa_cons (pv 2) (pa_cons (pe_op op_catS (pe_tup (pa_cons pe_str pa_nil)) (pv 6)) (pa_cons (pe_op op_catS (pe_tup (pa_cons (pe_ix ix_list (pv 3) pe_int (fun _ _ => rfl)) (pa_cons (pv 5) pa_nil))) (pv 6)) pa_nil)))))
      (pss_one (ps_ret (pe_call GF hr (by rfl) DF.g DF.F.kp DF.b .nil pass0 (pa_cons (pv 7) (pa_cons (pv 7) pa_nil)))))))))))))
      , ?_⟩
    have hs : sizeLine = 16777216 := rfl
    have hj1 : joinL 0 [g :: p] = renP (g :: p) 0 := by simp [joinL]
    have hm1 : mainsL 0 [g :: p] = [fname 0] := by simp [mainsL]
    refine ⟨_, rfl, v, _, rfl, hv, hg, fun H1 S1 => ⟨_, rfl, v, g, p, rfl, hv.same S1, hg, fun H2 S2 => ⟨_, _, rfl, rfl, ?_⟩⟩⟩
    have em : ((g.ps.length : Nat) : Int) - 1 = ((m : Nat) : Int) := by omega
    refine ⟨_, rfl, _, _, rfl, rfl, _, rfl, ?_⟩
    rw [em, decide_eq_false (show ¬ (((m : Nat) : Int) < 0) by omega)]
    refine iteF ⟨_, rfl, _, _, rfl, rfl, _, rfl, ?_⟩
    rw [em, decide_eq_false (show ¬ ((8 : Int) < ((m : Nat) : Int)) by omega)]
    refine iteF ?_
    refine ⟨_, rfl, (by show 1 ≤ sizeLine; decide), fun b hb => ?_⟩
    have S3 := same_upd (o := .lst [v]) hb
    have SS := (S1.trans S2).trans S3
    refine ⟨b, _, [g :: p], rfl, upd_same, .cons (hv.same SS) .nil, fun q hq => by rw [List.mem_singleton.mp hq]; exact hg, by simp only [List.map_cons, List.map_nil, List.sum_cons, List.sum_nil, List.length_cons]; omega, fun H4 r ml vf S4 hrT hvf hml => ?_⟩
    rw [hj1] at hvf
    rw [hm1] at hml
    have SS := SS.trans S4
    clear S1 S2 S3
    refine ⟨r, _, rfl, hrT, rfl, _, _, rfl, _, _, rfl, rfl, ?_⟩
    obtain ⟨fa, fx, rfl, hfT, hfx⟩ := hvf.l_eq
    have hfl := hfx.length
    rw [List.length_map, renP_length, List.length_cons] at hfl
    refine ⟨_, rfl, fa, _, rfl, .inr hfT, p.length + 1, by rw [hfl]; rfl, by omega, ?_⟩
    refine ⟨_, rfl, _, rfl, fa, _, rfl, .inr hfT, _, _, rfl, rfl, _, rfl, fname (p.length + 1), p.length + 2, m, (by show [V.str (fname (p.length + 1)), V.int (((fx.length : Nat) : Int) + 1), V.int (((g.ps.length : Nat) : Int) - 1)] = _; rw [em, hfl]; rfl), by omega, by omega, fun r5 H5 S5 hr5 => ?_⟩
    refine ⟨_, rfl, m, (by show [V.int (((g.ps.length : Nat) : Int) - 1)] = _; rw [em]), by omega, fun r6 H6 S6 hr6 => ?_⟩
    obtain ⟨ia, ix, rfl, hiT, hix⟩ := hr6.l_eq
    have hil := hix.length
    rw [List.length_map] at hil
    have hxn : (xnames m).length = m := by unfold xnames; rw [List.length_map, List.length_range]
    refine ⟨_, rfl, (by show 1 ≤ sizeLine; decide), fun t1 ht1 => ?_⟩
    have T1 := same_upd (o := .tup [.str "s"]) ht1
    refine ⟨_, rfl, t1, ia, _, _, rfl, rfl, SqT.of upd_same, hiT.same T1, by rw [hil, hxn]; show 1 + m ≤ sizeLine; omega, fun q1 H7 S7 hq1 => ?_⟩
    have hml7 := S7 _ _ (T1 _ _ (S6 _ _ (S5 _ _ hml)))
    refine ⟨_, rfl, ml, _, _, _, rfl, rfl, SqL.of hml7, at0, _, rfl, (by show 2 ≤ sizeLine; decide), fun t2 ht2 => ?_⟩
    have T2 := same_upd (o := .tup [.str (fname 0), r5]) ht2
    have S17 := (T1.trans S7).trans T2
    refine ⟨_, rfl, t2, ia, _, _, rfl, rfl, SqT.of upd_same, hiT.same S17, by rw [hil, hxn]; show 2 + m ≤ sizeLine; omega, fun q2 H8 S8 hq2 => ?_⟩
    have S18 := S17.trans S8
    have S58 := (S5.trans S6).trans S18
    refine ⟨_, _, _, (renP (g :: p) 0).map Fn.t, .l (.w "s" :: (xnames m).map T.w), .l (.w (fname 0) :: treeT (fname (p.length + 1)) (p.length + 2) m :: (xnames m).map T.w), rfl, Rep.l (hfT.same S58) (hfx.same S58), Rep.l ((hq1.same T2).same S8) (.cons .w (hix.same S18)), Rep.l hq2 (.cons .w (.cons ((hr5.same S6).same S18) (hix.same S18))), by rw [List.length_map, renP_length, List.length_cons]; omega, fun rk' H9 S9 hrk => ?_⟩
    have elen : ((renP (g :: p) 0).map Fn.t).length = p.length + 1 := by rw [List.length_map, renP_length, List.length_cons]
    have hrk2 : Rep K H9 (progT (hk :: rk)) rk' := by
      rw [hkt]
      unfold knowT
      rw [elen]
      rw [elen] at hrk
      exact hrk
    refine ⟨_, rfl, _, rfl, rk', rk', hk, rk, progT (hk :: rk), m, rfl, hrk2, hrk2, hkg, hkps, hm, by omega, fun rr H10 S10 hrr => ?_⟩
    refine k _ _ (((SS.trans S58).trans S9).trans S10) ?_
    rw [hkn, hkl] at hrr
    exact hrr
theorem ok_mirror {f fC fI fX fJ fP fW fK : Addr} {fd fdC fdI fdX fdJ fdP fdW fdK : FuncData} (B : Bl mg) (D : Dfn K mg "mirror" sMirror ["judge", "no", "yes"] f fd)
    (DC : Dfn K mg "check_program" sCheckProgram ["value"] fC fdC) (GC : FnOk P w K mg base CX0 9 fC fdC ["value"] (spCheckProgram K))
    (DI : Dfn K mg "inputs_of" sInputsOf ["program"] fI fdI) (GI : FnOk P w K mg base CX0 9 fI fdI ["program"] (spInputsOf K))
    (DX : Dfn K mg "check_inputs" sCheckInputs ["programs", "many"] fX fdX) (GX : FnOk P w K mg base CX0 9 fX fdX ["programs", "many"] (spCheckInputs K))
    (DJ : Dfn K mg "joined" sJoined ["programs"] fJ fdJ) (GJ : FnOk P w K mg base CX0 9 fJ fdJ ["programs"] (spJoined K))
    (DP : Dfn K mg "made_parameters" sMadeParameters ["many"] fP fdP) (GP : FnOk P w K mg base CX0 9 fP fdP ["many"] (spMadeParameters K))
    (DW : Dfn K mg "with_main" sWithMain ["functions", "parameters", "body"] fW fdW) (GW : FnOk P w K mg base CX0 9 fW fdW ["functions", "parameters", "body"] (spWithMain K))
    (DK : Dfn K mg "know_own" sKnowOwn ["program"] fK fdK) (GK : FnOk P w K mg base CX0 9 fK fdK ["program"] (spKnowOwn K)) :
    FnOk P w K mg base CX0 10 f fd ["judge", "no", "yes"] (spMirror K) := by
  refine D.F.ok sc_sMirror (fun vs H Q XE h => ?_) (fun cdv AA outer st H vs Q XE hr h => ?_)
  · obtain ⟨v1, v2, v3, j, n, y, m, g, p, kn, rfl, _⟩ := h
    rfl
  · obtain ⟨v1, v2, v3, j, n, y, m, g, p, kn, rfl, h1, h2, h3, g1, g2, g3, hlen, hj1, hn1, hy1, hm, hpt, hpg, hpps, hpl, hkg, hkt, hkk, k⟩ := h
    have nd := sc_sMirror.nd
    refine ⟨_,
      (pss_cons (ps_for PassesOwn.never rfl (pi_tup (pe_tup (pa_cons (pv 0) (pa_cons (pv 1) (pa_cons (pv 2) pa_nil))))) (pg_name (i := 3) nd rfl (.inl rfl))
      (pss_one (ps_expr (pe_call GC hr (by rfl) DC.g DC.F.kp DC.b .nil pass0 (pa_cons (pv 3) pa_nil)))))
      (pss_cons (ps_set (i := 4) nd rfl (.inl rfl) (pe_call GI hr (by rfl) DI.g DI.F.kp DI.b .nil pass0 (pa_cons (pv 1) pa_nil)))
      (pss_cons (ps_expr (pe_call GX hr (by rfl) DX.g DX.F.kp DX.b .nil pass0 (pa_cons (pe_lst (pa_cons (pv 0) pa_nil)) (pa_cons pe_int pa_nil))))
      (pss_cons (ps_expr (pe_call GX hr (by rfl) DX.g DX.F.kp DX.b .nil pass0 (pa_cons (pe_lst (pa_cons (pv 1) (pa_cons (pv 2) pa_nil))) (pa_cons (pv 4) pa_nil))))
      (pss_cons (ps_asg (pe_call GJ hr (by rfl) DJ.g DJ.F.kp DJ.b .nil pass0 (pa_cons (pe_lst (pa_cons (pv 0) (pa_cons (pv 1) (pa_cons (pv 2) pa_nil)))) pa_nil)) (pg_tup (by rfl) (pgs_cons (pg_name (i := 5) nd rfl (.inl rfl)) (pgs_cons (pg_name (i := 6) nd rfl (.inl rfl)) pgs_nil))))
      (pss_cons (ps_set (i := 7) nd rfl (.inl rfl) (pe_call GP hr (by rfl) DP.g DP.F.kp DP.b .nil pass0 (pa_cons (pv 4) pa_nil)))
      (pss_cons (ps_set (i := 8) nd rfl (.inl rfl) (pe_tup (pa_cons pe_str (pa_cons (pe_tup (pa_cons (pe_ix ix_list (pv 6) pe_int (fun _ _ => rfl)) (pa_cons pe_str pa_nil))) (pa_cons (pe_op op_catS (pe_tup (pa_cons (pe_ix ix_list (pv 6) pe_int (fun _ _ => rfl)) pa_nil)) (pv 7)) (pa_cons (pe_op op_catS (pe_tup (pa_cons (pe_ix ix_list (pv 6) pe_int (fun _ _ => rfl)) pa_nil)) (pv 7)) pa_nil))))))
      (pss_one (ps_ret (pe_call GK hr (by rfl) DK.g DK.F.kp DK.b .nil pass0 (pa_cons (pe_call GW hr (by rfl) DW.g DW.F.kp DW.b .nil pass0 (pa_cons (pv 5) (pa_cons (pe_op op_catS (pe_tup (pa_cons pe_str pa_nil)) (pv 7)) (pa_cons (pv 8) pa_nil)))) pa_nil)))))))))))
      , ?_⟩
    have hs : sizeLine = 16777216 := rfl
    refine ⟨_, rfl, _, rfl, _, rfl, (by show 3 ≤ sizeLine; decide), fun t0 ht0 => ?_⟩
    have T0 := same_upd (o := .tup [v1, v2, v3]) ht0
    have ht0T : SqT K (upd H t0 (.tup [v1, v2, v3])) t0 [v1, v2, v3] := SqT.of upd_same
    refine ⟨t0, rfl, ⟨_, ht0T⟩, ?_⟩
    refine for_tup (xs := [v1, v2, v3]) (fun i σ' H' => ∃ x3 : Option V, σ' = [some v1, some v2, some v3, x3, none, none, none, none, none] ∧ Same (upd H t0 (.tup [v1, v2, v3])) H') ⟨_, rfl, Same.refl _⟩ ?_ ?_ ?_
    · rintro i σ' H' _ ⟨x3, rfl, S⟩
      exact ht0T.same S
    · rintro i x σ' H' hx ⟨x3, rfl, S⟩
      have SS := T0.trans S
      have hx3 : ∃ q, Good q ∧ Rep K H (progT q) x := by
        match i, hx with
        | 0, hx => cases hx; exact ⟨j, g1, h1⟩
        | 1, hx => cases hx; exact ⟨n, g2, h2⟩
        | 2, hx => cases hx; exact ⟨y, g3, h3⟩
        | i + 3, hx => simp at hx
      obtain ⟨q, hq1, hq2⟩ := hx3
      exact ⟨_, rfl, x, q, rfl, hq2.same SS, hq1, fun H2 S2 => ⟨_, rfl, S.trans S2⟩⟩
    · rintro σ' H1 ⟨x3, rfl, S⟩
      have S1 := T0.trans S
      obtain ⟨hn, rn, rfl, hnm⟩ := hn1
      refine ⟨_, rfl, v2, hn, rn, rfl, h2.same S1, g2, fun H2 S2 => ?_⟩
      rw [hnm]
      have S2 := S1.trans S2
      refine ⟨_, rfl, (by show 1 ≤ sizeLine; decide), fun b1 hb1 => ?_⟩
      have U1 := same_upd (o := .lst [v1]) hb1
      refine ⟨b1, _, [j], 1, rfl, upd_same, .cons (h1.same (S2.trans U1)) .nil, fun q hq => ?_, by omega, fun H3 S3 => ?_⟩
      · rw [List.mem_singleton.mp hq]; exact ⟨g1, hj1⟩
      have S3 := (S2.trans U1).trans S3
      refine ⟨_, rfl, _, rfl, (by show 2 ≤ sizeLine; decide), fun b2 hb2 => ?_⟩
      have U2 := same_upd (o := .lst [v2, v3]) hb2
      refine ⟨_, rfl, b2, _, [hn :: rn, y], m, rfl, upd_same, .cons (h2.same (S3.trans U2)) (.cons (h3.same (S3.trans U2)) .nil), fun q hq => ?_, hm, fun H4 S4 => ?_⟩
      · simp only [List.mem_cons, List.not_mem_nil, or_false] at hq
        rcases hq with rfl | rfl
        · exact ⟨g2, hn, rn, rfl, hnm⟩
        · exact ⟨g3, hy1⟩
      have S4 := (S3.trans U2).trans S4
      refine ⟨_, rfl, _, rfl, _, rfl, (by show 3 ≤ sizeLine; decide), fun b3 hb3 => ?_⟩
      have U3 := same_upd (o := .lst [v1, v2, v3]) hb3
      refine ⟨b3, _, [j, hn :: rn, y], rfl, upd_same, .cons (h1.same (S4.trans U3)) (.cons (h2.same (S4.trans U3)) (.cons (h3.same (S4.trans U3)) .nil)), fun q hq => ?_, by simp only [List.map_cons, List.map_nil, List.sum_cons, List.sum_nil]; omega, fun H5 r ml vf S5 hrT hvf hml => ?_⟩
      · simp only [List.mem_cons, List.not_mem_nil, or_false] at hq
        rcases hq with rfl | rfl | rfl
        · exact g1
        · exact g2
        · exact g3
      have S5 := (S4.trans U3).trans S5
      have hmains : mainsL 0 [j, hn :: rn, y] = [fname 0, fname j.length, fname (j.length + (hn :: rn).length)] := by simp [mainsL]
      rw [hmains] at hml
      refine ⟨r, _, rfl, hrT, rfl, _, _, rfl, _, _, rfl, rfl, ?_⟩
      refine ⟨_, rfl, m, rfl, by omega, fun r6 H6 S6 hr6 => ?_⟩
      obtain ⟨ia, ix, rfl, hiT, hix⟩ := hr6.l_eq
      have hil := hix.length
      rw [List.length_map] at hil
      have hxn : (xnames m).length = m := by unfold xnames; rw [List.length_map, List.length_range]
      have hml6 := S6 _ _ hml
      have hvf6 := hvf.same S6
      have SS6 := S5.trans S6
      -- body
      refine ⟨_, rfl, ml, _, _, _, rfl, rfl, SqL.of hml6, at0, (by show 2 ≤ sizeLine; decide), fun t1 ht1 => ?_⟩
      have T1 := same_upd (o := .tup [.str (fname 0), .str "s"]) ht1
      refine ⟨_, rfl, ml, _, _, _, rfl, rfl, SqL.of (T1 _ _ hml6), at2, (by show 1 ≤ sizeLine; decide), fun t2 ht2 => ?_⟩
      have T2 := same_upd (o := .tup [.str (fname (j.length + (hn :: rn).length))]) ht2
      have T12 := T1.trans T2
      refine ⟨_, rfl, t2, ia, _, _, rfl, rfl, SqT.of upd_same, hiT.same T12, by rw [hil, hxn]; show 1 + m ≤ sizeLine; omega, fun q1 H7 S7 hq1 => ?_⟩
      have T7 := T12.trans S7
      refine ⟨_, rfl, ml, _, _, _, rfl, rfl, SqL.of (T7 _ _ hml6), at1, (by show 1 ≤ sizeLine; decide), fun t3 ht3 => ?_⟩
      have T3 := same_upd (o := .tup [.str (fname j.length)]) ht3
      have T73 := T7.trans T3
      refine ⟨_, rfl, t3, ia, _, _, rfl, rfl, SqT.of upd_same, hiT.same T73, by rw [hil, hxn]; show 1 + m ≤ sizeLine; omega, fun q2 H8 S8 hq2 => ⟨(by show 4 ≤ sizeLine; decide), fun t4 ht4 => ?_⟩⟩
      have T4 := same_upd (o := .tup [.str "if", .ref t1, .ref q1, .ref q2]) ht4
      have T8 := (T73.trans S8).trans T4
      have hbody : Rep K (upd H8 t4 (.tup [.str "if", .ref t1, .ref q1, .ref q2])) (.l [.w sIf, .l [.w (fname 0), .w "s"], .l (.w (fname (j.length + (hn :: rn).length)) :: (xnames m).map T.w), .l (.w (fname j.length) :: (xnames m).map T.w)]) (.ref t4) := by
        refine Rep.l (SqT.of upd_same) (.cons .w (.cons (Rep.l (SqT.same ((((T2.trans S7).trans T3).trans S8).trans T4) (SqT.of upd_same)) (.cons .w (.cons .w .nil))) (.cons (Rep.l (((hq1.same T3).same S8).same T4) (.cons .w (hix.same T8))) (.cons (Rep.l (hq2.same T4) (.cons .w (hix.same T8))) .nil))))
      have hvf8 := hvf6.same T8
      have hiT8 := hiT.same T8
      have hix8 := hix.same T8
      have SS8 := SS6.trans T8
      clear hiT hix hq1 hq2 T8 T4 T73 T3 T7 T12 T2 T1
      generalize upd H8 t4 (.tup [.str "if", .ref t1, .ref q1, .ref q2]) = H9 at *
      refine ⟨_, rfl, (by show 1 ≤ sizeLine; decide), fun t5 ht5 => ?_⟩
      have T5 := same_upd (o := .tup [.str "s"]) ht5
      refine ⟨_, rfl, t5, ia, _, _, rfl, rfl, SqT.of upd_same, hiT8.same T5, by rw [hil, hxn]; show 1 + m ≤ sizeLine; omega, fun q3 H10 S10 hq3 => ?_⟩
      have T6 := T5.trans S10
      have ejl : (joinL 0 [j, hn :: rn, y]).length = j.length + (hn :: rn).length + y.length := by
        rw [joinL_length]; simp only [List.map_cons, List.map_nil, List.sum_cons, List.sum_nil]; omega
      refine ⟨_, rfl, vf, .ref q3, .ref t4, (joinL 0 [j, hn :: rn, y]).map Fn.t, .l (.w "s" :: (xnames m).map T.w), _, rfl, hvf8.same T6, Rep.l hq3 (.cons .w (hix8.same T6)), hbody.same T6, by rw [List.length_map, ejl]; omega, fun rk H11 S11 hrk => ?_⟩
      have hrk2 : Rep K H11 (progT (g :: p)) rk := by
        rw [hpt]
        unfold mirT
        rw [List.length_map] at hrk
        exact hrk
      refine ⟨rk, g, p, kn, m, rfl, hrk2, hpg, hpps, hm, by omega, hkg, hkt, hkk, fun rr H12 S12 hrr => ?_⟩
      exact k _ _ (((SS8.trans T6).trans S11).trans S12) hrr
end
end K46
/-! the law's draws. -/
namespace K46
open PySem PySem.Spec PyProof.Rows L2

def spDraws (K : PySem.W.Frag) : Sp := fun vs H Q _ => ∃ (a : Addr) (ns : List Int), vs = [.ref a, .int 400] ∧ SqL K H a (ns.map V.int) ∧ ns.length ≤ 63 ∧
  ∀ (H' : Hp) (dl : Addr) (ds : List Nat), Same H H' → H dl = none → H' dl = some (.lst (ds.map vint)) → (∀ d ∈ ds, d < 2147483648) → Q (.ref dl) H'
theorem emod_b (a b : Int) (h : 0 < b) : 0 ≤ a % b ∧ a % b < b := ⟨Int.emod_nonneg _ (by omega), Int.emod_lt_of_pos _ h⟩
theorem pos3 : (0 : Int) < 1000003 := by decide
theorem pos1 : (0 : Int) < 2147483647 := by decide
theorem pos2 : (0 : Int) < 2147483629 := by decide
structure HandAt (H : Hp) (h dl : Addr) : Prop where
  at_ : ∃ (n : Nat) (ds : List Nat), H h = some (.lst [.ref dl, vint n]) ∧ H dl = some (.lst (ds.map vint)) ∧ (∀ d ∈ ds, d < 2147483648) ∧ h ≠ dl
def spTake : Sp := fun vs H Q _ => ∃ (h dl : Addr) (m : Nat), vs = [.ref h, vint m] ∧ HandAt H h dl ∧ 0 < m ∧ m ≤ 1000 ∧ ∀ (H' : Hp) (r : Nat), Kp [h] H H' → HandAt H' h dl → r < m → Q (vint r) H'
abbrev sDraws : Stmt := top 56
theorem sc_sDraws : FnScope ["_law_script", "_law_many", "_law_rests", "_law_cell", "_law_draws_here", "_law_k", "_law_at", "_law_mixed"] ["_law_script", "_law_many"] (defScope sDraws) := ⟨rfl, rfl, rfl, by decide +kernel, rfl, by decide +kernel, by decide +kernel⟩
abbrev sTake : Stmt := top 57
theorem sc_sTake : FnScope ["_law_hand", "_law_many", "_law_at", "_law_draws_here"] ["_law_hand", "_law_many"] (defScope sTake) := ⟨rfl, rfl, rfl, by decide +kernel, rfl, by decide +kernel, by decide +kernel⟩
section
variable {P : Program} {w : World} {K : PySem.W.Frag} {mg : Str → Option Value} {base : Heap}
theorem ok_take {f : Addr} {fd : FuncData} (B : Bl mg) (D : Dfn K mg "_law_take" sTake ["_law_hand", "_law_many"] f fd) : FnOk P w K mg base CX0 1 f fd ["_law_hand", "_law_many"] spTake := by
  refine D.F.ok sc_sTake (fun vs H Q XE h => ?_) (fun cdv AA outer st H vs Q XE hr h => ?_)
  · obtain ⟨h, dl, m, rfl, _⟩ := h
    rfl
  · obtain ⟨h, dl, m, rfl, ⟨n, ds, h1, h2, h3, h4⟩, hm0, hm1, k⟩ := h
    have nd := sc_sTake.nd
    refine ⟨_,
      (pss_cons (ps_set (i := 2) nd rfl (.inl rfl) (pe_ix ix_list (pv 0) pe_int (fun _ _ => rfl)))
      (pss_cons (ps_asg (pe_op op_add (pv 2) pe_int) (pg_sub (pv 0) pe_int set_list (by intro _; rfl)))
      (pss_cons (ps_set (i := 3) nd rfl (.inl rfl) (pe_ix ix_list (pv 0) pe_int (fun _ _ => rfl)))
      (pss_cons (ps_if (pt_cmpR op_ge (pv 2) (pe_callB call_len_seq (by rfl) B.len PySem.boot_len (pa_cons (pv 3) pa_nil)) (nomark _))
      (pss_one (ps_ret pe_int))
      pss_nil)
      (pss_one (ps_ret (pe_op op_mod (pe_op op_fdiv (pe_callTy call_int1 (by rfl) B.int PyProof.Rows.boot_int (pa_cons (pe_ix ix_list (pv 3) (pv 2) (fun _ _ => rfl)) pa_nil)) pe_int) (pv 1))))))))
      , ?_⟩
    refine ⟨_, rfl, h, _, _, _, rfl, rfl, SqL.of h1, at1, ?_⟩
    refine ⟨_, rfl, _, _, rfl, rfl, _, rfl, h, _, 1, 1, rfl, rfl, h1, rfl, ?_⟩
    have g1 : upd H h (.lst ([V.ref dl, vint n].set 1 (.int ((n : Int) + 1)))) h = some (.lst [.ref dl, vint (n + 1)]) := upd_same
    have g2 : upd H h (.lst ([V.ref dl, vint n].set 1 (.int ((n : Int) + 1)))) dl = some (.lst (ds.map vint)) := by rw [upd_ne h4.symm]; exact h2
    have kp : Kp [h] H (upd H h (.lst ([V.ref dl, vint n].set 1 (.int ((n : Int) + 1))))) := Kp.refl.upd (.inl (by simp))
    generalize upd H h (.lst ([V.ref dl, vint n].set 1 (.int ((n : Int) + 1)))) = H1 at *
    have hd : HandAt H1 h dl := ⟨n + 1, ds, g1, g2, h3, h4⟩
    refine ⟨_, rfl, h, _, _, _, rfl, rfl, SqL.of g1, at0, ?_⟩
    refine ⟨_, rfl, _, rfl, dl, _, rfl, .inl (SqL.of g2), _, _, rfl, rfl, _, rfl, ?_⟩
    rw [List.length_map]
    by_cases hn : n < ds.length
    · rw [decide_eq_false (show ¬ ((ds.length : Nat) : Int) ≤ ((n : Nat) : Int) by omega)]
      obtain ⟨d, hdn⟩ : ∃ d, ds[n]? = some d := ⟨_, List.getElem?_eq_getElem hn⟩
      refine iteF ⟨_, rfl, _, rfl, dl, _, _, _, rfl, rfl, SqL.of g2, atI_nat (v := vint d) (by rw [List.getElem?_map, hdn]; rfl), .inl ⟨_, rfl, _, _, rfl, rfl, ⟨by decide, by decide⟩, _, rfl, _, _, rfl, rfl, (by omega), ?_⟩⟩
      exact k H1 (d / 7 % m) kp hd (Nat.mod_lt _ hm0)
    · rw [decide_eq_true (show ((ds.length : Nat) : Int) ≤ ((n : Nat) : Int) by omega)]
      exact iteT (k H1 0 kp hd hm0)
theorem ok_draws {f : Addr} {fd : FuncData} (B : Bl mg) (D : Dfn K mg "_law_draws" sDraws ["_law_script", "_law_many"] f fd) : FnOk P w K mg base CX0 1 f fd ["_law_script", "_law_many"] (spDraws K) := by
  refine D.F.ok sc_sDraws (fun vs H Q XE h => ?_) (fun cdv AA outer st H vs Q XE hr h => ?_)
  · obtain ⟨a, ns, rfl, _⟩ := h
    rfl
  · obtain ⟨a, ns, rfl, hS, hl, k⟩ := h
    have nd := sc_sDraws.nd
    refine ⟨_,
      (pss_cons (ps_setLc (i := 2) (own := [("_law_cell", 3)]) (g := gName 3) (tt := tYes) (by rfl) nd rfl rfl (sw_true rfl rfl rfl (by decide +kernel)) (pi_list (pv 0)) (blkOk_by (own := [("_law_cell", 3)]) (N := ["_law_script", "_law_many", "_law_rests", "_law_cell", "_law_draws_here", "_law_k", "_law_at", "_law_mixed"]) (sc := defScope sDraws) (by decide +kernel)) (fun _ _ _ _ _ => by exact (pg_name (i := 3) nd rfl (Or.inl rfl))) (fun _ _ _ _ _ => by exact pts_nil) (fun _ _ _ _ _ => by exact (pe_callB call_abs (by rfl) B.abs PyProof.Rows.boot_abs (pa_cons (pe_callTy call_int1 (by rfl) B.int PyProof.Rows.boot_int (pa_cons (pv 3) pa_nil)) pa_nil))))
      (pss_cons (ps_set (i := 4) nd rfl (.inl rfl) (pe_lst pa_nil))
      (pss_cons (ps_for PassesOwn.never rfl (pi_range1 (by rfl) B.range (pa_cons (pv 1) pa_nil)) (pg_name (i := 5) nd rfl (.inl rfl))
      (pss_cons (ps_set (i := 3) nd rfl (.inl rfl) (pv 5))
      (pss_cons (ps_if (pt_cmpR op_gt (pe_callB call_len_seq (by rfl) B.len PySem.boot_len (pa_cons (pv 0) pa_nil)) pe_int (nomark _))
      (pss_cons (ps_set (i := 6) nd rfl (.inl rfl) (pe_op op_mod (pv 5) (pe_callB call_len_seq (by rfl) B.len PySem.boot_len (pa_cons (pv 0) pa_nil))))
      (pss_cons (ps_set (i := 3) nd rfl (.inl rfl) (pe_callTy call_int1 (by rfl) B.int PyProof.Rows.boot_int (pa_cons (pe_ix ix_list (pv 0) (pv 6) (fun _ _ => rfl)) pa_nil)))
      (pss_one (ps_if (PW.pt (pw_and (pt_cmpR op_ge (pv 3) (pe_op op_pow pe_int pe_int) (nomark _)) (pw_and1 (pt_cmpR op_gt (pe_ix ix_list (pv 2) (pv 6) (fun _ _ => rfl)) pe_int (nomark _)))))
      (pss_cons (ps_expr (pe_bm PySem.F.plainAttrs_list PySem.F.slot_list_append PySem.F.type_list_append mt_append (pv 4) (pa_cons (pe_op op_mod (pe_callTy call_int1 (by rfl) B.int PyProof.Rows.boot_int (pa_cons (pe_ix ix_list (pv 2) (pv 6) (fun _ _ => rfl)) pa_nil)) pe_int) pa_nil)))
      (pss_cons (ps_asg (pe_op op_fdiv (pe_callTy call_int1 (by rfl) B.int PyProof.Rows.boot_int (pa_cons (pe_ix ix_list (pv 2) (pv 6) (fun _ _ => rfl)) pa_nil)) pe_int) (pg_sub (pv 2) (pv 6) set_list (by intro _; rfl)))
      (pss_one ps_continue)))
      pss_nil))))
      pss_nil)
      (pss_cons (ps_set (i := 7) nd rfl (.inl rfl) (pe_op op_mod (pe_callTy call_int1 (by rfl) B.int PyProof.Rows.boot_int (pa_cons (pe_op op_add (pe_op op_add (pe_op op_mul (pv 3) pe_int) (pe_op op_mul (pv 5) pe_int)) pe_int) pa_nil)) pe_int))
      (pss_cons (ps_set (i := 7) nd rfl (.inl rfl) (pe_op op_mod (pe_callTy call_int1 (by rfl) B.int PyProof.Rows.boot_int (pa_cons (pe_op op_add (pe_op op_fdiv (pe_op op_mul (pv 7) (pv 7)) pe_int) (pv 7)) pa_nil)) pe_int))
      (pss_one (ps_expr (pe_bm PySem.F.plainAttrs_list PySem.F.slot_list_append PySem.F.type_list_append mt_append (pv 4) (pa_cons (pe_op op_mod (pe_callTy call_int1 (by rfl) B.int PyProof.Rows.boot_int (pa_cons (pe_op op_add (pe_op op_fdiv (pe_op op_mul (pv 7) (pv 7)) pe_int) (pe_op op_mul (pv 5) pe_int)) pa_nil)) pe_int) pa_nil)))))))))
      (pss_one (ps_ret (pv 4))))))
      , ?_⟩
    have hs : sizeLine = 16777216 := rfl
    refine ⟨_, rfl, a, rfl, ⟨_, hS⟩, fun D hD => ?_⟩
    refine lc_list (xs := ns.map V.int) (fun i H' => ∃ rs : List Int, Same H H' ∧ H' D = some (.lst (rs.map V.int)) ∧ rs.length = i ∧ ∀ r ∈ rs, 0 ≤ r) ⟨[], same_upd hD, upd_same, rfl, fun _ h => nomatch h⟩ (fun i H' _ h => by obtain ⟨rs, S, _⟩ := h; exact S.seq hS) ?_ ?_
    · rintro i x H' hx ⟨rs, S, d1, d2, d3⟩
      rw [List.getElem?_map, Option.map_eq_some_iff] at hx
      obtain ⟨c, hc, rfl⟩ := hx
      have hi := (List.getElem?_eq_some_iff.mp hc).1
      refine ⟨rfl, ?_⟩
      refine ⟨_, rfl, .inl ⟨c, rfl, c, rfl, _, d1, by rw [List.length_map]; omega, rs ++ [if c < 0 then -c else c], S.upd hD, by rw [upd_same, List.map_append]; rfl, by rw [List.length_append, d2]; rfl, fun r hr => ?_⟩⟩
      rcases List.mem_append.mp hr with hr | hr
      · exact d3 r hr
      · rw [List.mem_singleton.mp hr]; split <;> omega
    · rintro H1 ⟨rs0, S1, d1, d2, d3⟩
      rw [List.length_map] at d2
      refine ⟨(by show 0 ≤ sizeLine; decide), fun dl hdl => ?_⟩
      have hdl0 : H dl = none := S1.free hdl
      have nDl : D ≠ dl := ne_of_none d1 hdl
      refine ⟨_, rfl, _, rfl, by decide, by decide, ?_⟩
      have e400 : ((400 : Int) - 0).toNat = 400 := rfl
      refine for_range (lo := 0) (n := 400) (fun i σ' H' => ∃ (rs : List Int) (ds : List Nat) (x3 x5 x6 x7 : Option V), σ' = [some (.ref a), some (.int 400), some (.ref D), x3, some (.ref dl), x5, x6, x7] ∧ Same H H' ∧ H' D = some (.lst (rs.map V.int)) ∧ rs.length = ns.length ∧ (∀ r ∈ rs, 0 ≤ r) ∧
        H' dl = some (.lst (ds.map vint)) ∧ ds.length ≤ i ∧ ∀ d ∈ ds, d < 2147483648) ?_ ?_ ?_
      · exact ⟨rs0, [], _, _, _, _, rfl, S1.upd hdl0, by rw [upd_ne nDl]; exact d1, d2, d3, upd_same, Nat.zero_le _, fun _ h => nomatch h⟩
      · rintro i σ' H' hi ⟨rs, ds, x3, x5, x6, x7, rfl, S, c1, c2, c3, c4, c5, c6⟩
        -- a draw is added
        have add : ∀ (z : Int) (rs' : List Int) (H2 : Hp) (y3 y5 y6 y7 : Option V), 0 ≤ z → z < 2147483648 → Same H H2 → H2 D = some (.lst (rs'.map V.int)) → rs'.length = ns.length → (∀ r ∈ rs', 0 ≤ r) → H2 dl = some (.lst (ds.map vint)) →
            ∃ (rs : List Int) (ds' : List Nat) (x3 x5 x6 x7 : Option V), [some (.ref a), some (.int 400), some (.ref D), y3, some (.ref dl), y5, y6, y7] = [some (.ref a), some (.int 400), some (.ref D), x3, some (.ref dl), x5, x6, x7] ∧ Same H (upd H2 dl (.lst (ds.map vint ++ [.int z]))) ∧ upd H2 dl (.lst (ds.map vint ++ [.int z])) D = some (.lst (rs.map V.int)) ∧ rs.length = ns.length ∧ (∀ r ∈ rs, 0 ≤ r) ∧
              upd H2 dl (.lst (ds.map vint ++ [.int z])) dl = some (.lst (ds'.map vint)) ∧ ds'.length ≤ i + 1 ∧ ∀ d ∈ ds', d < 2147483648 := by
          intro z rs' H2 y3 y5 y6 y7 hz0 hz1 S2 e1 e2 e3 e4
          obtain ⟨n, rfl⟩ := Int.eq_ofNat_of_zero_le hz0
          refine ⟨rs', ds ++ [n], _, _, _, _, rfl, S2.upd hdl0, by rw [upd_ne nDl]; exact e1, e2, e3, by rw [upd_same, List.map_append]; rfl, by rw [List.length_append, List.length_singleton]; omega, fun d hd => ?_⟩
          rcases List.mem_append.mp hd with hd | hd
          · exact c6 d hd
          · rw [List.mem_singleton.mp hd]; omega
        refine ⟨_, rfl, _, rfl, a, _, rfl, .inl (S.seq hS), _, _, rfl, rfl, _, rfl, ?_⟩
        rw [List.length_map]
        by_cases hn : ns.length = 0
        · rw [decide_eq_false (show ¬ ((0 : Int) < ((ns.length : Nat) : Int)) by omega)]
          refine iteF ?_
          refine ⟨_, rfl, _, _, rfl, rfl, .inr ⟨by decide, by decide⟩, _, rfl, _, _, rfl, rfl, .inr ⟨by decide, by decide⟩, _, _, rfl, rfl, _, _, rfl, rfl, .inl ⟨_, rfl, _, _, rfl, rfl, pos1, ?_⟩⟩
          show gName 7 (V.int ((((0 : Int) + (i : Int)) * 48271 + ((0 : Int) + (i : Int)) * 69621 + 11) % 2147483647)) _ _ _
          have z1b := emod_b (((0 : Int) + (i : Int)) * 48271 + ((0 : Int) + (i : Int)) * 69621 + 11) 2147483647 (by decide)
          generalize (((0 : Int) + (i : Int)) * 48271 + ((0 : Int) + (i : Int)) * 69621 + 11) % 2147483647 = z1 at *
          refine ⟨_, rfl, _, rfl, _, _, rfl, rfl, .inl ⟨by omega, by omega⟩, _, _, rfl, rfl, ⟨by decide, by decide⟩, _, rfl, _, _, rfl, rfl, .inl ⟨_, rfl, _, _, rfl, rfl, pos2, ?_⟩⟩
          show gName 7 (V.int ((z1 * z1 / 4096 + z1) % 2147483629)) _ _ _
          have z2b := emod_b (z1 * z1 / 4096 + z1) 2147483629 (by decide)
          generalize (z1 * z1 / 4096 + z1) % 2147483629 = z2 at *
          refine ⟨_, rfl, .inl ⟨rfl, _, SqL.of c4⟩, _, rfl, _, rfl, _, _, rfl, rfl, .inl ⟨by omega, by omega⟩, _, _, rfl, rfl, ⟨by decide, by decide⟩, _, rfl, _, _, rfl, rfl, .inr ⟨by decide, by decide⟩, _, _, rfl, rfl, .inl ⟨_, rfl, _, _, rfl, rfl, pos2, dl, _, _, rfl, rfl, c4, (by rw [List.length_map]; omega), ?_⟩⟩
          have z3b := emod_b (z2 * z2 / 4096 + ((0 : Int) + (i : Int)) * 7919) 2147483629 (by decide)
          exact add _ rs H' _ _ _ _ z3b.1 (by omega) S c1 c2 c3 c4
        · rw [decide_eq_true (show (0 : Int) < ((ns.length : Nat) : Int) by omega)]
          refine iteT ?_
          refine ⟨_, rfl, _, rfl, a, _, rfl, .inl (S.seq hS), _, _, rfl, rfl, (by rw [List.length_map]; omega), ?_⟩
          show gName 6 (V.int (((0 : Int) + (i : Int)) % (((ns.map V.int).length : Nat) : Int))) _ _ _
          rw [List.length_map]
          have hatb := emod_b ((0 : Int) + (i : Int)) ((ns.length : Nat) : Int) (by omega)
          generalize ((0 : Int) + (i : Int)) % ((ns.length : Nat) : Int) = at_ at *
          obtain ⟨j, rfl⟩ := Int.eq_ofNat_of_zero_le hatb.1
          obtain ⟨c, hc⟩ : ∃ c, ns[j]? = some c := ⟨_, List.getElem?_eq_getElem (by omega)⟩
          obtain ⟨r, hr⟩ : ∃ r, rs[j]? = some r := ⟨_, List.getElem?_eq_getElem (by omega)⟩
          have hr0 := c3 r (List.mem_of_getElem? hr)
          have ac : atI (ns.map V.int) ((j : Nat) : Int) = some (.int c) := atI_nat (by rw [List.getElem?_map, hc]; rfl)
          have ar : atI (rs.map V.int) ((j : Nat) : Int) = some (.int r) := atI_nat (by rw [List.getElem?_map, hr]; rfl)
          refine ⟨_, rfl, _, rfl, a, _, _, _, rfl, rfl, S.seq hS, ac, .inl ⟨c, rfl, ?_⟩⟩
          refine ⟨_, rfl, _, _, rfl, rfl, ⟨by decide, by decide, by decide⟩, _, _, rfl, rfl, _, rfl, ?_⟩
          refine ite_both (fun _ => ?_) (fun _ => ?_)
          · refine ⟨_, rfl, _, rfl, D, _, _, _, rfl, rfl, SqL.of c1, ar, _, _, rfl, rfl, _, rfl, ite_both (fun _ => ?_) (fun _ => ?_)⟩
            · refine ⟨_, rfl, .inl ⟨rfl, _, SqL.of c4⟩, _, rfl, _, rfl, D, _, _, _, rfl, rfl, SqL.of c1, ar, .inl ⟨_, rfl, _, _, rfl, rfl, pos3, dl, _, _, rfl, rfl, c4, (by rw [List.length_map]; omega), ?_⟩⟩
              have zb := emod_b r 1000003 (by decide)
              have g1 : upd H' dl (.lst (ds.map vint ++ [.int (r % 1000003)])) D = some (.lst (rs.map V.int)) := by rw [upd_ne nDl]; exact c1
              have g4 : upd H' dl (.lst (ds.map vint ++ [.int (r % 1000003)])) dl = some (.lst (ds.map vint ++ [.int (r % 1000003)])) := upd_same
              have hjl := (List.getElem?_eq_some_iff.mp hr).1
              refine ⟨_, rfl, _, rfl, D, _, _, _, rfl, rfl, SqL.of g1, ar, .inl ⟨_, rfl, _, _, rfl, rfl, ⟨by decide, by decide⟩, _, rfl, _, rfl, D, _, _, j, rfl, rfl, g1, (by
                unfold ixN; rw [if_pos (by omega), if_pos (by rw [List.length_map]; omega)]; simp), ?_⟩⟩
              obtain ⟨n, hn'⟩ := Int.eq_ofNat_of_zero_le zb.1
              refine ⟨rs.set j (r / 1000003), ds ++ [n], _, _, _, _, rfl, (S.upd hdl0).upd hD, by rw [upd_same, List.map_set], by rw [List.length_set]; exact c2, fun q hq => ?_, by rw [upd_ne nDl.symm, g4, hn', List.map_append]; rfl, by rw [List.length_append, List.length_singleton]; omega, fun d hd => ?_⟩
              · rcases List.mem_or_eq_of_mem_set hq with hq | rfl
                · exact c3 q hq
                · exact Int.ediv_nonneg hr0 (by decide)
              · rcases List.mem_append.mp hd with hd | hd
                · exact c6 d hd
                · rw [List.mem_singleton.mp hd]; omega
            · skip
              refine ⟨_, rfl, _, _, rfl, rfl, .inr ⟨by decide, by decide⟩, _, rfl, _, _, rfl, rfl, .inr ⟨by decide, by decide⟩, _, _, rfl, rfl, _, _, rfl, rfl, .inl ⟨_, rfl, _, _, rfl, rfl, pos1, ?_⟩⟩
              show gName 7 (V.int ((c * 48271 + ((0 : Int) + (i : Int)) * 69621 + 11) % 2147483647)) _ _ _
              have z1b := emod_b (c * 48271 + ((0 : Int) + (i : Int)) * 69621 + 11) 2147483647 (by decide)
              generalize (c * 48271 + ((0 : Int) + (i : Int)) * 69621 + 11) % 2147483647 = z1 at *
              refine ⟨_, rfl, _, rfl, _, _, rfl, rfl, .inl ⟨by omega, by omega⟩, _, _, rfl, rfl, ⟨by decide, by decide⟩, _, rfl, _, _, rfl, rfl, .inl ⟨_, rfl, _, _, rfl, rfl, pos2, ?_⟩⟩
              show gName 7 (V.int ((z1 * z1 / 4096 + z1) % 2147483629)) _ _ _
              have z2b := emod_b (z1 * z1 / 4096 + z1) 2147483629 (by decide)
              generalize (z1 * z1 / 4096 + z1) % 2147483629 = z2 at *
              refine ⟨_, rfl, .inl ⟨rfl, _, SqL.of c4⟩, _, rfl, _, rfl, _, _, rfl, rfl, .inl ⟨by omega, by omega⟩, _, _, rfl, rfl, ⟨by decide, by decide⟩, _, rfl, _, _, rfl, rfl, .inr ⟨by decide, by decide⟩, _, _, rfl, rfl, .inl ⟨_, rfl, _, _, rfl, rfl, pos2, dl, _, _, rfl, rfl, c4, (by rw [List.length_map]; omega), ?_⟩⟩
              have z3b := emod_b (z2 * z2 / 4096 + ((0 : Int) + (i : Int)) * 7919) 2147483629 (by decide)
              exact add _ rs H' _ _ _ _ z3b.1 (by omega) S c1 c2 c3 c4
          · skip
            refine ⟨_, rfl, _, _, rfl, rfl, .inr ⟨by decide, by decide⟩, _, rfl, _, _, rfl, rfl, .inr ⟨by decide, by decide⟩, _, _, rfl, rfl, _, _, rfl, rfl, .inl ⟨_, rfl, _, _, rfl, rfl, pos1, ?_⟩⟩
            show gName 7 (V.int ((c * 48271 + ((0 : Int) + (i : Int)) * 69621 + 11) % 2147483647)) _ _ _
            have z1b := emod_b (c * 48271 + ((0 : Int) + (i : Int)) * 69621 + 11) 2147483647 (by decide)
            generalize (c * 48271 + ((0 : Int) + (i : Int)) * 69621 + 11) % 2147483647 = z1 at *
            refine ⟨_, rfl, _, rfl, _, _, rfl, rfl, .inl ⟨by omega, by omega⟩, _, _, rfl, rfl, ⟨by decide, by decide⟩, _, rfl, _, _, rfl, rfl, .inl ⟨_, rfl, _, _, rfl, rfl, pos2, ?_⟩⟩
            show gName 7 (V.int ((z1 * z1 / 4096 + z1) % 2147483629)) _ _ _
            have z2b := emod_b (z1 * z1 / 4096 + z1) 2147483629 (by decide)
            generalize (z1 * z1 / 4096 + z1) % 2147483629 = z2 at *
            refine ⟨_, rfl, .inl ⟨rfl, _, SqL.of c4⟩, _, rfl, _, rfl, _, _, rfl, rfl, .inl ⟨by omega, by omega⟩, _, _, rfl, rfl, ⟨by decide, by decide⟩, _, rfl, _, _, rfl, rfl, .inr ⟨by decide, by decide⟩, _, _, rfl, rfl, .inl ⟨_, rfl, _, _, rfl, rfl, pos2, dl, _, _, rfl, rfl, c4, (by rw [List.length_map]; omega), ?_⟩⟩
            have z3b := emod_b (z2 * z2 / 4096 + ((0 : Int) + (i : Int)) * 7919) 2147483629 (by decide)
            exact add _ rs H' _ _ _ _ z3b.1 (by omega) S c1 c2 c3 c4
      · rintro σ' H' ⟨rs, ds, x3, x5, x6, x7, rfl, S, c1, c2, c3, c4, c5, c6⟩
        exact ⟨_, rfl, k H' dl ds S hdl0 c4 c6⟩
end
end K46
/-! the law's values. -/
namespace K46
open PySem PySem.Spec PyProof.Rows L2

def spNo : Sp := fun _ _ _ _ => False
theorem fnNo {P : Program} {w : World} {K : PySem.W.Frag} {mg : Str → Option Value} {base : Heap} {k : Nat} {f : Addr} {fd : FuncData} {ps : List Str} : FnOk P w K mg base CX0 k f fd ps spNo :=
  ⟨fun _ _ _ _ h => h.elim, fun _ _ _ _ _ _ _ _ _ _ _ _ _ h => h.elim⟩
def words8 : List Str := ["yes", "a", "quote", "f0", "b2", "done", "spin", "x"]
def vsz : Nat → Nat
  | 0 => 1
  | e + 1 => 1 + 3 * vsz e
structure ValOk (e : Nat) (t : T) : Prop where
  dep : t.depth ≤ e
  wid : t.wide ≤ 3
  ok : t.Ok
  size : t.size ≤ vsz e
def spValue (K : PySem.W.Frag) (d : Nat) : Sp := fun vs H Q _ => ∃ (h dl : Addr) (e : Nat), vs = [.ref h, vint e] ∧ e ≤ d ∧ HandAt H h dl ∧ ∀ (H' : Hp) (t : T) (r : V), Kp [h] H H' → HandAt H' h dl → Rep K H' t r → ValOk e t → Q r H'
def spValueR (K : PySem.W.Frag) : Nat → Sp
  | 0 => spNo
  | d + 1 => spValue K d
abbrev sValue : Stmt := top 58
theorem sc_sValue : FnScope ["_law_hand", "_law_depth", "_law_k"] ["_law_hand", "_law_depth"] (defScope sValue) := ⟨rfl, rfl, rfl, by decide +kernel, rfl, by decide +kernel, by decide +kernel⟩
theorem words8_ok : words8.all (fun x => decide (x.cps.toList.length ≤ 12) && (match x.cps.toList with | [] => false | c :: _ => isLet c) && x.cps.toList.all isAl) = true := by decide +kernel
theorem words_ok (e : Nat) : ∀ x ∈ words8, ValOk e (.w x) := fun x hx =>
  ⟨by simp [T.depth], by simp [T.wide], wordOk_of (List.all_eq_true.mp words8_ok x hx), by
    cases e with
    | zero => simp [T.size, vsz]
    | succ e => simp only [T.size, vsz]; omega⟩
theorem vsz_mono : ∀ e, vsz e ≤ vsz (e + 1) := fun e => by show vsz e ≤ 1 + 3 * vsz e; omega
theorem vsz_pos : ∀ e, 1 ≤ vsz e
  | 0 => Nat.le_refl _
  | e + 1 => by show 1 ≤ 1 + 3 * vsz e; omega
theorem valOk_list {e : Nat} {ts : List T} (hl : ts.length ≤ 3) (h : ∀ t ∈ ts, ValOk e t) : ValOk (e + 1) (.l ts) := by
  refine ⟨?_, ?_, ?_, ?_⟩
  · show depthL ts ≤ e + 1
    exact depthL_le (by omega) fun t ht => by have := (h t ht).dep; omega
  · show max ts.length (wideL ts) ≤ 3
    have := wideL_le (d := 3) fun t ht => (h t ht).wid
    omega
  · show OkL ts
    exact OkL_iff.mpr fun t ht => (h t ht).ok
  · show sizeL ts ≤ 1 + 3 * vsz e
    have key : ∀ (us : List T), (∀ t ∈ us, ValOk e t) → sizeL us ≤ 1 + us.length * vsz e := by
      intro us
      induction us with
      | nil => intro _; simp [sizeL]
      | cons u us ih =>
        intro hu
        have h1 := (hu u List.mem_cons_self).size
        have h2 := ih fun t ht => hu t (List.mem_cons_of_mem _ ht)
        rw [sizeL, List.length_cons, Nat.add_mul]
        omega
    have h1 := key ts h
    have h2 : ts.length * vsz e ≤ 3 * vsz e := Nat.mul_le_mul_right _ hl
    omega
section
variable {P : Program} {w : World} {K : PySem.W.Frag} {mg : Str → Option Value} {base : Heap}
theorem HandAt.noTup {H : Hp} {h dl : Addr} (a : HandAt H h dl) : NoTup [h] H := by
  obtain ⟨n, ds, h1, _⟩ := a.at_
  intro b hb
  rw [List.mem_singleton.mp hb, h1]
  exact ⟨(fun _ q => by cases q), (fun _ _ q => by cases q)⟩
theorem HandAt.tups {H H' : Hp} {h dl : Addr} (a : HandAt H h dl) (k : Kp [h] H H') : Tups H H' := k.tups a.noTup
theorem HandAt.ne {H : Hp} {h dl : Addr} (a : HandAt H h dl) : H h ≠ none := by
  obtain ⟨n, ds, h1, _⟩ := a.at_
  rw [h1]; exact fun q => nomatch q
theorem HandAt.ne2 {H : Hp} {h dl : Addr} (a : HandAt H h dl) : H dl ≠ none := by
  obtain ⟨n, ds, h1, h2, _⟩ := a.at_
  rw [h2]; exact fun q => nomatch q
theorem HandAt.same {H H' : Hp} {h dl : Addr} (a : HandAt H h dl) (S : Same H H') : HandAt H' h dl := by
  obtain ⟨n, ds, h1, h2, h3, h4⟩ := a.at_
  exact ⟨n, ds, S _ _ h1, S _ _ h2, h3, h4⟩
theorem HandAt.upd {H : Hp} {h dl p : Addr} {o : HO} (a : HandAt H h dl) (h1 : p ≠ h) (h2 : p ≠ dl) : HandAt (upd H p o) h dl := by
  obtain ⟨n, ds, a1, a2, a3, a4⟩ := a.at_
  exact ⟨n, ds, by rw [upd_ne h1.symm]; exact a1, by rw [upd_ne h2.symm]; exact a2, a3, a4⟩
theorem value_step {f fT : Addr} {fd fdT : FuncData} (B : Bl mg) (D : Dfn K mg "_law_value" sValue ["_law_hand", "_law_depth"] f fd) (DT : Dfn K mg "_law_take" sTake ["_law_hand", "_law_many"] fT fdT) (GT0 : FnOk P w K mg base CX0 1 fT fdT ["_law_hand", "_law_many"] spTake)
    (d : Nat) (GV : FnOk P w K mg base CX0 (1 + d) f fd ["_law_hand", "_law_depth"] (spValueR K d)) : FnOk P w K mg base CX0 (1 + d + 1) f fd ["_law_hand", "_law_depth"] (spValue K d) := by
  have GT := GT0.mono (show 1 ≤ 1 + d by omega)
  refine D.F.ok sc_sValue (fun vs H Q XE h => ?_) (fun cdv AA outer st H vs Q XE hr h => ?_)
  · obtain ⟨h, dl, e, rfl, _⟩ := h
    rfl
  · obtain ⟨h, dl, e, rfl, he, hh, k⟩ := h
    have nd := sc_sValue.nd
    refine ⟨_,
      (pss_cons (ps_if (PW.pt (pw_or (pt_cmpR op_eq (pv 1) pe_int (nomark _)) (pw_or1 (pt_cmpR op_eq (pe_call GT hr (by rfl) DT.g DT.F.kp DT.b .nil pass0 (pa_cons (pv 0) (pa_cons pe_int pa_nil))) pe_int (nomark _)))))
      (pss_one (ps_ret (pe_ix ix_list (pe_lst (pa_cons pe_str (pa_cons pe_str (pa_cons pe_str (pa_cons pe_str (pa_cons pe_str (pa_cons pe_str (pa_cons pe_str (pa_cons pe_str pa_nil))))))))) (pe_call GT hr (by rfl) DT.g DT.F.kp DT.b .nil pass0 (pa_cons (pv 0) (pa_cons pe_int pa_nil))) (fun _ _ => rfl))))
      pss_nil)
      (pss_one (ps_ret (pe_callTy call_tupOf (by rfl) B.tuple PyProof.Rows.boot_tuple (pa_cons (pe_lc (own := [("_law_k", 2)]) (g := gName 2) (tt := tYes) (by rfl) nd (pi_range1 (by rfl) B.range (pa_cons (pe_call GT hr (by rfl) DT.g DT.F.kp DT.b .nil pass0 (pa_cons (pv 0) (pa_cons pe_int pa_nil))) pa_nil)) (blkOk_by (own := [("_law_k", 2)]) (N := ["_law_hand", "_law_depth", "_law_k"]) (sc := defScope sValue) (by decide +kernel)) (fun _ _ _ _ _ => by exact (pg_name (i := 2) nd rfl (Or.inl rfl))) (fun _ _ _ _ _ => by exact pts_nil) (fun _ _ _ _ _ => by exact (pe_call GV hr (by rfl) D.g D.F.kp D.b .nil pass0 (pa_cons (pv 0) (pa_cons (pe_op op_sub (pv 1) pe_int) pa_nil))))) pa_nil)))))
      , ?_⟩
    have hs : sizeLine = 16777216 := rfl
    -- a word
    have word : ∀ (r : Nat) (p : Addr) (H1 H2 : Hp), r < 8 → Kp [h] H H1 → HandAt H1 h dl → H1 p = none → Kp [h] (upd H1 p (.lst (words8.map V.str))) H2 → HandAt H2 h dl → ∃ (q : Addr) (xs : List V) (i : Int) (v : V), V.ref p = .ref q ∧ vint r = .int i ∧ SqL K H2 q xs ∧ atI xs i = some v ∧ Q v H2 := by
      intro r p H1 H2 hr8 kp1 hd1 hp kp2 hd2
      obtain ⟨x, hx⟩ : ∃ x, words8[r]? = some x := ⟨_, List.getElem?_eq_getElem hr8⟩
      have hne : p ≠ h := fun z => hd1.ne (z ▸ hp)
      refine ⟨p, _, _, .str x, rfl, rfl, SqL.of (kp2.keep p _ (by simpa using hne) upd_same), atI_nat (by rw [List.getElem?_map, hx]; rfl), ?_⟩
      exact k H2 (.w x) _ ((kp1.trans (Kp.of_same (same_upd hp))).trans kp2) hd2 .w (words_ok e x (List.mem_of_getElem? hx))
    refine ⟨_, rfl, rfl, ?_⟩
    by_cases h0 : e = 0
    · subst h0
      rw [decide_eq_true (show V.int ((0 : Nat) : Int) = V.int 0 from rfl)]
      refine ⟨_, rfl, iteT ⟨(by show 8 ≤ sizeLine; decide), fun p hp => ?_⟩⟩
      have hd1 : HandAt (upd H p (.lst (words8.map V.str))) h dl := hh.same (same_upd hp)
      exact ⟨_, rfl, h, dl, 8, rfl, hd1, by decide, by decide, fun H2 r kp2 hd2 hr8 => word r p H H2 hr8 Kp.refl hh hp kp2 hd2⟩
    · rw [decide_eq_false (show ¬ V.int ((e : Nat) : Int) = V.int 0 from fun q => by have := V.int.inj q; omega)]
      refine ⟨_, rfl, iteF ⟨_, rfl, h, dl, 3, rfl, hh, by decide, by decide, fun H1 r1 kp1 hd1 hr1 => ⟨rfl, _, rfl, ite_both (fun _ => ?_) (fun _ => ?_)⟩⟩⟩
      · refine ⟨(by show 8 ≤ sizeLine; decide), fun p hp => ?_⟩
        have hd1' : HandAt (upd H1 p (.lst (words8.map V.str))) h dl := hd1.same (same_upd hp)
        exact ⟨_, rfl, h, dl, 8, rfl, hd1', by decide, by decide, fun H2 r kp2 hd2 hr8 => word r p H1 H2 hr8 kp1 hd1 hp kp2 hd2⟩
      · obtain ⟨d', rfl⟩ : ∃ d', d = d' + 1 := ⟨d - 1, by omega⟩
        obtain ⟨e', rfl⟩ : ∃ e', e = e' + 1 := ⟨e - 1, by omega⟩
        refine ⟨_, rfl, h, dl, 4, rfl, hd1, by decide, by decide, fun H2 m kp2 hd2 hm4 => ⟨_, rfl, by omega, by omega, fun L hL => ?_⟩⟩
        have nL : L ≠ h := fun z => hd2.ne (z ▸ hL)
        have nL2 : L ≠ dl := fun z => hd2.ne2 (z ▸ hL)
        have kp02 := kp1.trans kp2
        refine lc_range (lo := 0) (n := m) (fun i H' => ∃ (ts : List T) (cs : List V), Kp [h] H H' ∧ HandAt H' h dl ∧ H' L = some (.lst cs) ∧ Reps K H' ts cs ∧ ts.length = i ∧ ∀ t ∈ ts, ValOk e' t) ⟨[], [], kp02.trans (Kp.of_same (same_upd hL)), hd2.same (same_upd hL), upd_same, .nil, rfl, fun _ h => nomatch h⟩ ?_ ?_
        · rintro i H' hi ⟨ts, cs, c1, c2, c3, c4, c5, c6⟩
          have hcl := c4.length
          refine ⟨rfl, ?_⟩
          refine ⟨_, rfl, _, rfl, _, _, rfl, rfl, h, dl, e', ?_, by omega, c2, fun H3 t r kp3 hd3 hr3 hv => ?_⟩
          · have : (((e' + 1 : Nat) : Int) - 1) = ((e' : Nat) : Int) := by omega
            show [V.ref h, V.int (((e' + 1 : Nat) : Int) - 1)] = _
            rw [this]
          · have l3 := kp3.keep L _ (by simpa using nL) c3
            have tt3 := c2.tups kp3
            have tt4 : Tups H3 (upd H3 L (.lst (cs ++ [r]))) := Tups.upd l3 trivial
            refine ⟨cs, l3, by omega, ts ++ [t], cs ++ [r], (c1.trans kp3).upd (.inr (kp02.free hL)), hd3.upd nL nL2, upd_same, ((c4.tups tt3).tups tt4).snoc (hr3.tups tt4), by rw [List.length_append, c5]; rfl, fun u hu => ?_⟩
            · rcases List.mem_append.mp hu with hu | hu
              · exact c6 u hu
              · rw [List.mem_singleton.mp hu]; exact hv
        · rintro H' ⟨ts, cs, c1, c2, c3, c4, c5, c6⟩
          refine ⟨L, cs, rfl, SqL.of c3, fun l H5 S5 hT => ?_⟩
          exact k _ _ _ (c1.trans (Kp.of_same S5)) (c2.same S5) (Rep.l hT (c4.same S5)) (valOk_list (by omega) c6)
theorem ok_value {f fT : Addr} {fd fdT : FuncData} (B : Bl mg) (D : Dfn K mg "_law_value" sValue ["_law_hand", "_law_depth"] f fd) (DT : Dfn K mg "_law_take" sTake ["_law_hand", "_law_many"] fT fdT) (GT0 : FnOk P w K mg base CX0 1 fT fdT ["_law_hand", "_law_many"] spTake) :
    ∀ d, FnOk P w K mg base CX0 (1 + d + 1) f fd ["_law_hand", "_law_depth"] (spValue K d)
  | 0 => value_step B D DT GT0 0 fnNo
  | d + 1 => value_step B D DT GT0 (d + 1) (ok_value B D DT GT0 d)
end
end K46
/-! the law's expressions. -/
namespace K46
open PySem PySem.Spec PyProof.Rows L2

abbrev Cs := List (Str × Nat)
inductive GenE (ps : List Str) (cs : Cs) : Nat → E → Prop
  | v {d : Nat} {x : Str} : x ∈ ps → GenE ps cs d (.v x)
  | q {d : Nat} {t : T} : ValOk 2 t → GenE ps cs d (.q t)
  | ite {d : Nat} {a b c : E} : GenE ps cs d a → GenE ps cs d b → GenE ps cs d c → GenE ps cs (d + 1) (.app sIf [a, b, c])
  | same {d : Nat} {a b : E} : GenE ps cs d a → GenE ps cs d b → GenE ps cs (d + 1) (.app sSame [a, b])
  | join {d : Nat} {a b : E} : GenE ps cs d a → GenE ps cs d b → GenE ps cs (d + 1) (.app sJoin [a, b])
  | word {d : Nat} {a : E} : GenE ps cs d a → GenE ps cs (d + 1) (.app sWord [a])
  | head {d : Nat} {a : E} : GenE ps cs d a → GenE ps cs (d + 1) (.app sHead [a])
  | tail {d : Nat} {a : E} : GenE ps cs d a → GenE ps cs (d + 1) (.app sTail [a])
  | call {d : Nat} {g : Str} {es : List E} : (g, es.length) ∈ cs → (∀ e ∈ es, GenE ps cs d e) → GenE ps cs (d + 1) (.app g es)
def CallAt (K : PySem.W.Frag) (H : Hp) (c : Str × Nat) (u : V) : Prop := ∃ a, u = .ref a ∧ SqT K H a [.str c.1, vint c.2]
def CallsAt (K : PySem.W.Frag) (H : Hp) (cs : Cs) (us : List V) : Prop := Paired (CallAt K H) cs us
theorem CallsAt.tups {K : PySem.W.Frag} {H H' : Hp} (tt : Tups H H') : ∀ {cs : Cs} {us : List V}, CallsAt K H cs us → CallsAt K H' cs us
  | _, _, .nil => .nil
  | _, _, .cons ⟨a, e, h⟩ t => .cons ⟨a, e, h.tups tt⟩ (CallsAt.tups tt t)
theorem CallsAt.get {K : PySem.W.Frag} {H : Hp} : ∀ {cs : Cs} {us : List V} {i : Nat} {c : Str × Nat}, CallsAt K H cs us → cs[i]? = some c → ∃ u, us[i]? = some u ∧ CallAt K H c u
  | _, _, _, _, .nil, h => by simp at h
  | _, _, 0, _, .cons a t, h => by simp at h; subst h; exact ⟨_, rfl, a⟩
  | _, _, i + 1, _, .cons a t, h => by
    obtain ⟨u, h1, h2⟩ := CallsAt.get (i := i) t (by simpa using h)
    exact ⟨u, by simpa using h1, h2⟩
theorem CallsAt.append {K : PySem.W.Frag} {H : Hp} : ∀ {cs cs' : Cs} {us us' : List V}, CallsAt K H cs us → CallsAt K H cs' us' → CallsAt K H (cs ++ cs') (us ++ us')
  | _, _, _, _, .nil, k => k
  | _, _, _, _, .cons a t, k => .cons a (CallsAt.append t k)
def spExpr (K : PySem.W.Frag) (d : Nat) : Sp := fun vs H Q _ => ∃ (h dl pa ca : Addr) (e : Nat) (ps : List Str) (cs : Cs) (us : List V), vs = [.ref h, .ref pa, .ref ca, vint e] ∧ e ≤ d ∧ HandAt H h dl ∧ SqT K H pa (ps.map V.str) ∧ H ca = some (.lst us) ∧ CallsAt K H cs us ∧ ca ≠ h ∧
  (∀ c ∈ cs, c.2 ≤ 3) ∧ ps.length ≤ 12 ∧ cs.length ≤ 12 ∧ ∀ (H' : Hp) (ex : E) (r : V), Kp [h] H H' → HandAt H' h dl → Rep K H' ex.t r → GenE ps cs e ex → Q r H'
def spExprR (K : PySem.W.Frag) : Nat → Sp
  | 0 => spNo
  | d + 1 => spExpr K d
abbrev sExpr : Stmt := top 59
theorem sc_sExpr : FnScope ["_law_hand", "_law_parameters", "_law_calls", "_law_depth", "_law_kind", "_law_parts", "_law_k", "_law_left", "_law_name", "_law_many"] ["_law_hand", "_law_parameters", "_law_calls", "_law_depth"] (defScope sExpr) := ⟨rfl, rfl, rfl, by decide +kernel, rfl, by decide +kernel, by decide +kernel⟩
section
variable {P : Program} {w : World} {K : PySem.W.Frag} {mg : Str → Option Value} {base : Heap}
theorem expr_step {f fT fV : Addr} {fd fdT fdV : FuncData} (B : Bl mg) (D : Dfn K mg "_law_expression" sExpr ["_law_hand", "_law_parameters", "_law_calls", "_law_depth"] f fd)
    (DT : Dfn K mg "_law_take" sTake ["_law_hand", "_law_many"] fT fdT) (GT0 : FnOk P w K mg base CX0 4 fT fdT ["_law_hand", "_law_many"] spTake)
    (DV : Dfn K mg "_law_value" sValue ["_law_hand", "_law_depth"] fV fdV) (GV0 : FnOk P w K mg base CX0 4 fV fdV ["_law_hand", "_law_depth"] (spValue K 2))
    (d : Nat) (GE : FnOk P w K mg base CX0 (4 + d) f fd ["_law_hand", "_law_parameters", "_law_calls", "_law_depth"] (spExprR K d)) : FnOk P w K mg base CX0 (4 + d + 1) f fd ["_law_hand", "_law_parameters", "_law_calls", "_law_depth"] (spExpr K d) := by
  have GT := GT0.mono (show 4 ≤ 4 + d by omega)
  have GV := GV0.mono (show 4 ≤ 4 + d by omega)
  refine D.F.ok sc_sExpr (fun vs H Q XE h => ?_) (fun cdv AA outer st H vs Q XE hr h => ?_)
  · obtain ⟨h, dl, pa, ca, e, ps, cs, us, rfl, _⟩ := h
    rfl
  · obtain ⟨h, dl, pa, ca, e, ps, cs, us, rfl, he, hh, hps, hca, hcs, hne, hc3, hpl, hcl, k⟩ := h
    have nd := sc_sExpr.nd
    refine ⟨_,
      (pss_cons (ps_set (i := 4) nd rfl (.inl rfl) (pe_call GT hr (by rfl) DT.g DT.F.kp DT.b .nil pass0 (pa_cons (pv 0) (pa_cons pe_int pa_nil))))
      (pss_cons (ps_if (PW.pt (pw_or (pt_cmpR op_eq (pv 3) pe_int (nomark _)) (pw_or1 (pt_cmpR op_lt (pv 4) pe_int (nomark _)))))
      (pss_cons (ps_if (PW.pt (pw_and (pt_cmpR op_gt (pe_callB call_len_seq (by rfl) B.len PySem.boot_len (pa_cons (pv 1) pa_nil)) pe_int (nomark _)) (pw_and1 (pt_cmpR op_gt (pe_call GT hr (by rfl) DT.g DT.F.kp DT.b .nil pass0 (pa_cons (pv 0) (pa_cons pe_int pa_nil))) pe_int (nomark _)))))
      (pss_one (ps_ret (pe_ix ix_tup (pv 1) (pe_call GT hr (by rfl) DT.g DT.F.kp DT.b .nil pass0 (pa_cons (pv 0) (pa_cons (pe_callB call_len_seq (by rfl) B.len PySem.boot_len (pa_cons (pv 1) pa_nil)) pa_nil))) (fun _ _ => rfl))))
      pss_nil)
      (pss_one (ps_ret (pe_tup (pa_cons pe_str (pa_cons (pe_call GV hr (by rfl) DV.g DV.F.kp DV.b .nil pass0 (pa_cons (pv 0) (pa_cons pe_int pa_nil))) pa_nil))))))
      pss_nil)
      (pss_cons (ps_if (pt_cmpR op_lt (pv 4) pe_int (nomark _))
      (pss_cons (ps_setLc (i := 5) (own := [("_law_k", 6)]) (g := gName 6) (tt := tYes) (by rfl) nd rfl rfl (sw_true rfl rfl rfl (by decide +kernel)) (pi_range1 (by rfl) B.range (pa_cons pe_int pa_nil)) (blkOk_by (own := [("_law_k", 6)]) (N := ["_law_hand", "_law_parameters", "_law_calls", "_law_depth", "_law_kind", "_law_parts", "_law_k", "_law_left", "_law_name", "_law_many"]) (sc := defScope sExpr) (by decide +kernel)) (fun _ _ _ _ _ => by exact (pg_name (i := 6) nd rfl (Or.inl rfl))) (fun _ _ _ _ _ => by exact pts_nil) (fun _ _ _ _ _ => by exact (pe_call GE hr (by rfl) D.g D.F.kp D.b .nil pass0 (pa_cons (pv 0) (pa_cons (pv 1) (pa_cons (pv 2) (pa_cons (pe_op op_sub (pv 3) pe_int) pa_nil)))))))
      (pss_one (ps_ret (pe_tup (pa_cons pe_str (pa_cons (pe_ix ix_list (pv 5) pe_int (fun _ _ => rfl)) (pa_cons (pe_ix ix_list (pv 5) pe_int (fun _ _ => rfl)) (pa_cons (pe_ix ix_list (pv 5) pe_int (fun _ _ => rfl)) pa_nil))))))))
      pss_nil)
      (pss_cons (ps_if (PW.pt (pw_or (pt_cmpR op_eq (pv 4) pe_int (nomark _)) (pw_or1 (pt_cmpR op_eq (pv 4) pe_int (nomark _)))))
      (pss_cons (ps_set (i := 7) nd rfl (.inl rfl) (pe_call GE hr (by rfl) D.g D.F.kp D.b .nil pass0 (pa_cons (pv 0) (pa_cons (pv 1) (pa_cons (pv 2) (pa_cons (pe_op op_sub (pv 3) pe_int) pa_nil))))))
      (pss_one (ps_ret (pe_tup (pa_cons pe_str (pa_cons (pv 7) (pa_cons (pe_call GE hr (by rfl) D.g D.F.kp D.b .nil pass0 (pa_cons (pv 0) (pa_cons (pv 1) (pa_cons (pv 2) (pa_cons (pe_op op_sub (pv 3) pe_int) pa_nil))))) pa_nil)))))))
      pss_nil)
      (pss_cons (ps_if (pt_cmpR op_lt (pv 4) pe_int (nomark _))
      (pss_cons (ps_set (i := 7) nd rfl (.inl rfl) (pe_call GE hr (by rfl) D.g D.F.kp D.b .nil pass0 (pa_cons (pv 0) (pa_cons (pv 1) (pa_cons (pv 2) (pa_cons (pe_op op_sub (pv 3) pe_int) pa_nil))))))
      (pss_one (ps_ret (pe_tup (pa_cons pe_str (pa_cons (pv 7) (pa_cons (pe_call GE hr (by rfl) D.g D.F.kp D.b .nil pass0 (pa_cons (pv 0) (pa_cons (pv 1) (pa_cons (pv 2) (pa_cons (pe_op op_sub (pv 3) pe_int) pa_nil))))) pa_nil)))))))
      pss_nil)
      (pss_cons (ps_if (pt_cmpR op_eq (pv 4) pe_int (nomark _))
      (pss_one (ps_ret (pe_tup (pa_cons pe_str (pa_cons (pe_call GE hr (by rfl) D.g D.F.kp D.b .nil pass0 (pa_cons (pv 0) (pa_cons (pv 1) (pa_cons (pv 2) (pa_cons (pe_op op_sub (pv 3) pe_int) pa_nil))))) pa_nil)))))
      pss_nil)
      (pss_cons (ps_if (PW.pt (pw_or (pt_cmpR op_lt (pv 4) pe_int (nomark _)) (pw_or1 (pt_cmpR op_eq (pe_callB call_len_seq (by rfl) B.len PySem.boot_len (pa_cons (pv 2) pa_nil)) pe_int (nomark _)))))
      (pss_one (ps_ret (pe_tup (pa_cons (pe_ix ix_list (pe_lst (pa_cons pe_str (pa_cons pe_str pa_nil))) (pe_op op_mod (pv 4) pe_int) (fun _ _ => rfl)) (pa_cons (pe_call GE hr (by rfl) D.g D.F.kp D.b .nil pass0 (pa_cons (pv 0) (pa_cons (pv 1) (pa_cons (pv 2) (pa_cons (pe_op op_sub (pv 3) pe_int) pa_nil))))) pa_nil)))))
      pss_nil)
      (pss_cons (ps_asg (pe_ix ix_list (pv 2) (pe_call GT hr (by rfl) DT.g DT.F.kp DT.b .nil pass0 (pa_cons (pv 0) (pa_cons (pe_callB call_len_seq (by rfl) B.len PySem.boot_len (pa_cons (pv 2) pa_nil)) pa_nil))) (fun _ _ => rfl)) (pg_tup (by rfl) (pgs_cons (pg_name (i := 8) nd rfl (.inl rfl)) (pgs_cons (pg_name (i := 9) nd rfl (.inl rfl)) pgs_nil))))
      (pss_one (ps_ret (pe_op op_catS (pe_tup (pa_cons (pv 8) pa_nil)) (pe_callTy call_tupOf (by rfl) B.tuple PyProof.Rows.boot_tuple (pa_cons (pe_lc (own := [("_law_k", 6)]) (g := gName 6) (tt := tYes) (by rfl) nd (pi_range1 (by rfl) B.range (pa_cons (pv 9) pa_nil)) (blkOk_by (own := [("_law_k", 6)]) (N := ["_law_hand", "_law_parameters", "_law_calls", "_law_depth", "_law_kind", "_law_parts", "_law_k", "_law_left", "_law_name", "_law_many"]) (sc := defScope sExpr) (by decide +kernel)) (fun _ _ _ _ _ => by exact (pg_name (i := 6) nd rfl (Or.inl rfl))) (fun _ _ _ _ _ => by exact pts_nil) (fun _ _ _ _ _ => by exact (pe_call GE hr (by rfl) D.g D.F.kp D.b .nil pass0 (pa_cons (pv 0) (pa_cons (pv 1) (pa_cons (pv 2) (pa_cons (pe_op op_sub (pv 3) pe_int) pa_nil))))))) pa_nil)))))))))))))
      , ?_⟩
    have hs : sizeLine = 16777216 := rfl
    refine ⟨_, rfl, h, dl, 12, rfl, hh, by decide, by decide, fun H1 kd kp1 hd1 hkd => ?_⟩
    have tt1 := hh.tups kp1
    refine ⟨_, rfl, rfl, ?_⟩
    by_cases h0 : e = 0
    · subst h0
      rw [decide_eq_true (show V.int ((0 : Nat) : Int) = V.int 0 from rfl)]
      refine ⟨_, rfl, iteT ?_⟩
      refine ⟨_, rfl, pa, _, rfl, .inr (hps.tups tt1), _, _, rfl, rfl, _, rfl, ?_⟩
      have quote : ∀ (H2 : Hp), Kp [h] H H2 → HandAt H2 h dl → tTup (tCons (tC (V.str "quote")) (tCons (tCall (spValue K 2) [] E0 (tCons (tVar 0) (tCons (tC (V.int 2)) tNil))) tNil)) [some (.ref h), some (.ref pa), some (.ref ca), some (vint 0), some (vint kd), none, none, none, none, none] H2 Q := by
        intro H2 kp2 hd2
        refine ⟨_, rfl, h, dl, 2, rfl, Nat.le_refl _, hd2, fun H3 t r kp3 hd3 hr3 hv => ⟨(by show 2 ≤ sizeLine; decide), fun p hp => ?_⟩⟩
        have Sp := same_upd (o := .tup [.str "quote", r]) hp
        exact k _ (.q t) _ ((kp2.trans kp3).trans (Kp.of_same Sp)) (hd3.same Sp) (Rep.l (SqT.of upd_same) (.cons .w (.cons (hr3.same Sp) .nil))) (.q hv)
      rw [List.length_map]
      by_cases hp0 : ps.length = 0
      · rw [decide_eq_false (show ¬ ((0 : Int) < ((ps.length : Nat) : Int)) by omega)]
        exact iteF (quote H1 kp1 hd1)
      · rw [decide_eq_true (show (0 : Int) < ((ps.length : Nat) : Int) by omega)]
        refine iteT ⟨_, rfl, h, dl, 3, rfl, hd1, by decide, by decide, fun H2 r2 kp2 hd2 hr2 => ⟨_, _, rfl, rfl, _, rfl, ite_both (fun _ => ?_) (fun _ => ?_)⟩⟩
        · have kp02 := kp1.trans kp2
          refine ⟨_, rfl, _, rfl, _, rfl, pa, _, rfl, .inr (hps.tups (hh.tups kp02)), h, dl, ps.length, by rw [List.length_map]; rfl, hd2, by omega, by omega, fun H3 r3 kp3 hd3 hr3 => ?_⟩
          obtain ⟨x, hx⟩ : ∃ x, ps[r3]? = some x := ⟨_, List.getElem?_eq_getElem hr3⟩
          refine ⟨pa, _, _, .str x, rfl, rfl, hps.tups (hh.tups (kp02.trans kp3)), atI_nat (by rw [List.getElem?_map, hx]; rfl), ?_⟩
          exact k H3 (.v x) _ (kp02.trans kp3) hd3 .w (.v (List.mem_of_getElem? hx))
        · exact quote H2 (kp1.trans kp2) hd2
    · rw [decide_eq_false (show ¬ V.int ((e : Nat) : Int) = V.int 0 from fun q => by have := V.int.inj q; omega)]
      refine ⟨_, rfl, iteF ⟨_, rfl, _, _, rfl, rfl, _, rfl, ite_both (fun _ => ?_) (fun _ => ?_)⟩⟩
      · skip
        refine ⟨_, rfl, pa, _, rfl, .inr (hps.tups tt1), _, _, rfl, rfl, _, rfl, ?_⟩
        have quote : ∀ (H2 : Hp), Kp [h] H H2 → HandAt H2 h dl → tTup (tCons (tC (V.str "quote")) (tCons (tCall (spValue K 2) [] E0 (tCons (tVar 0) (tCons (tC (V.int 2)) tNil))) tNil)) [some (.ref h), some (.ref pa), some (.ref ca), some (vint e), some (vint kd), none, none, none, none, none] H2 Q := by
          intro H2 kp2 hd2
          refine ⟨_, rfl, h, dl, 2, rfl, Nat.le_refl _, hd2, fun H3 t r kp3 hd3 hr3 hv => ⟨(by show 2 ≤ sizeLine; decide), fun p hp => ?_⟩⟩
          have Sp := same_upd (o := .tup [.str "quote", r]) hp
          exact k _ (.q t) _ ((kp2.trans kp3).trans (Kp.of_same Sp)) (hd3.same Sp) (Rep.l (SqT.of upd_same) (.cons .w (.cons (hr3.same Sp) .nil))) (.q hv)
        rw [List.length_map]
        by_cases hp0 : ps.length = 0
        · rw [decide_eq_false (show ¬ ((0 : Int) < ((ps.length : Nat) : Int)) by omega)]
          exact iteF (quote H1 kp1 hd1)
        · rw [decide_eq_true (show (0 : Int) < ((ps.length : Nat) : Int) by omega)]
          refine iteT ⟨_, rfl, h, dl, 3, rfl, hd1, by decide, by decide, fun H2 r2 kp2 hd2 hr2 => ⟨_, _, rfl, rfl, _, rfl, ite_both (fun _ => ?_) (fun _ => ?_)⟩⟩
          · have kp02 := kp1.trans kp2
            refine ⟨_, rfl, _, rfl, _, rfl, pa, _, rfl, .inr (hps.tups (hh.tups kp02)), h, dl, ps.length, by rw [List.length_map]; rfl, hd2, by omega, by omega, fun H3 r3 kp3 hd3 hr3 => ?_⟩
            obtain ⟨x, hx⟩ : ∃ x, ps[r3]? = some x := ⟨_, List.getElem?_eq_getElem hr3⟩
            refine ⟨pa, _, _, .str x, rfl, rfl, hps.tups (hh.tups (kp02.trans kp3)), atI_nat (by rw [List.getElem?_map, hx]; rfl), ?_⟩
            exact k H3 (.v x) _ (kp02.trans kp3) hd3 .w (.v (List.mem_of_getElem? hx))
          · exact quote H2 (kp1.trans kp2) hd2
      obtain ⟨d', rfl⟩ : ∃ d', d = d' + 1 := ⟨d - 1, by omega⟩
      obtain ⟨e', rfl⟩ : ∃ e', e = e' + 1 := ⟨e - 1, by omega⟩
      have hcaL : ∀ {Ha : Hp}, Kp [h] H Ha → Ha ca = some (.lst us) := fun {Ha} kp => kp.keep ca _ (by simpa using hne) hca
      have again : ∀ (Ha : Hp) (R : VK), Kp [h] H Ha → HandAt Ha h dl → (∀ (Hb : Hp) (ex : E) (r : V), Kp [h] Ha Hb → HandAt Hb h dl → Rep K Hb ex.t r → GenE ps cs e' ex → R r Hb) → spExpr K d' [.ref h, .ref pa, .ref ca, .int (((e' + 1 : Nat) : Int) - 1)] Ha R E0 := by
        intro Ha R kp hd kk
        have tt := hh.tups kp
        have ev : (((e' + 1 : Nat) : Int) - 1) = ((e' : Nat) : Int) := by omega
        rw [ev]
        exact ⟨h, dl, pa, ca, e', ps, cs, us, rfl, by omega, hd, hps.tups tt, hcaL kp, CallsAt.tups tt hcs, hne, hc3, hpl, hcl, kk⟩
      refine ⟨_, rfl, _, _, rfl, rfl, _, rfl, ite_both (fun _ => ?_) (fun _ => ?_)⟩
      · refine ⟨_, rfl, by decide, by decide, fun L hL => ?_⟩
        have nL1 : L ≠ h := fun z => hd1.ne (z ▸ hL)
        have nL2 : L ≠ dl := fun z => hd1.ne2 (z ▸ hL)
        have hL0 : H L = none := kp1.free hL
        refine lc_range (lo := 0) (n := 3) (fun i H' => ∃ (es : List E) (vs : List V), Kp [h] H H' ∧ HandAt H' h dl ∧ H' L = some (.lst vs) ∧ Reps K H' (es.map E.t) vs ∧ es.length = i ∧ ∀ x ∈ es, GenE ps cs e' x) ⟨[], [], kp1.trans (Kp.of_same (same_upd hL)), hd1.same (same_upd hL), upd_same, .nil, rfl, fun _ h => nomatch h⟩ ?_ ?_
        · rintro i H' hi ⟨es, vs, c1, c2, c3, c4, c5, c6⟩
          have hvl := c4.length
          rw [List.length_map] at hvl
          refine ⟨rfl, ?_⟩
          refine ⟨_, rfl, _, rfl, _, rfl, _, rfl, _, _, rfl, rfl, again H' _ c1 c2 fun H3 ex r kp3 hd3 hr3 hg => ?_⟩
          have l3 := kp3.keep L _ (by simpa using nL1) c3
          have tt4 : Tups H3 (upd H3 L (.lst (vs ++ [r]))) := Tups.upd l3 trivial
          refine ⟨vs, l3, by omega, es ++ [ex], vs ++ [r], (c1.trans kp3).upd (.inr hL0), hd3.upd nL1 nL2, upd_same, ?_, by rw [List.length_append, c5]; rfl, fun u hu => ?_⟩
          · rw [List.map_append]; exact ((c4.tups (c2.tups kp3)).tups tt4).snoc (hr3.tups tt4)
          · rcases List.mem_append.mp hu with hu | hu
            · exact c6 u hu
            · rw [List.mem_singleton.mp hu]; exact hg
        · rintro H' ⟨es, vs, c1, c2, c3, c4, c5, c6⟩
          obtain ⟨e1, e2, e3, rfl⟩ : ∃ e1 e2 e3, es = [e1, e2, e3] := by
            match es, c5 with
            | [e1, e2, e3], _ => exact ⟨e1, e2, e3, rfl⟩
          obtain ⟨r1, vs, rfl, q1, c4⟩ := c4.cons_eq
          obtain ⟨r2, vs, rfl, q2, c4⟩ := c4.cons_eq
          obtain ⟨r3, vs, rfl, q3, c4⟩ := c4.cons_eq
          refine ⟨_, rfl, L, _, _, _, rfl, rfl, SqL.of c3, at0, _, rfl, L, _, _, _, rfl, rfl, SqL.of c3, at1, _, rfl, L, _, _, _, rfl, rfl, SqL.of c3, at2, (by show 4 ≤ sizeLine; decide), fun p hp => ?_⟩
          have Sp := same_upd (o := .tup [.str "if", r1, r2, r3]) hp
          exact k _ (.app sIf [e1, e2, e3]) _ (c1.trans (Kp.of_same Sp)) (c2.same Sp) (Rep.l (SqT.of upd_same) (.cons .w (.cons (q1.same Sp) (.cons (q2.same Sp) (.cons (q3.same Sp) .nil))))) (.ite (c6 e1 (by simp)) (c6 e2 (by simp)) (c6 e3 (by simp)))
      refine ⟨_, rfl, rfl, _, rfl, ite_both (fun _ => ?_) (fun _ => ⟨_, rfl, rfl, _, rfl, ite_both (fun _ => ?_) (fun _ => ?_)⟩)⟩
      · skip
        refine ⟨_, rfl, _, rfl, _, rfl, _, rfl, _, _, rfl, rfl, again H1 _ kp1 hd1 fun H2 e1 r1 kp2 hd2 hr1 g1 => ?_⟩
        refine ⟨_, rfl, _, rfl, _, rfl, _, rfl, _, rfl, _, _, rfl, rfl, again H2 _ (kp1.trans kp2) hd2 fun H3 e2 r2 kp3 hd3 hr2 g2 => ⟨(by show 3 ≤ sizeLine; decide), fun p hp => ?_⟩⟩
        have Sp := same_upd (o := .tup [.str "same", r1, r2]) hp
        exact k _ (.app sSame [e1, e2]) _ (((kp1.trans kp2).trans kp3).trans (Kp.of_same Sp)) (hd3.same Sp) (Rep.l (SqT.of upd_same) (.cons .w (.cons ((hr1.tups (hd2.tups kp3)).same Sp) (.cons (hr2.same Sp) .nil)))) (.same g1 g2)
      · skip
        refine ⟨_, rfl, _, rfl, _, rfl, _, rfl, _, _, rfl, rfl, again H1 _ kp1 hd1 fun H2 e1 r1 kp2 hd2 hr1 g1 => ?_⟩
        refine ⟨_, rfl, _, rfl, _, rfl, _, rfl, _, rfl, _, _, rfl, rfl, again H2 _ (kp1.trans kp2) hd2 fun H3 e2 r2 kp3 hd3 hr2 g2 => ⟨(by show 3 ≤ sizeLine; decide), fun p hp => ?_⟩⟩
        have Sp := same_upd (o := .tup [.str "same", r1, r2]) hp
        exact k _ (.app sSame [e1, e2]) _ (((kp1.trans kp2).trans kp3).trans (Kp.of_same Sp)) (hd3.same Sp) (Rep.l (SqT.of upd_same) (.cons .w (.cons ((hr1.tups (hd2.tups kp3)).same Sp) (.cons (hr2.same Sp) .nil)))) (.same g1 g2)
      refine ⟨_, rfl, _, _, rfl, rfl, _, rfl, ite_both (fun _ => ?_) (fun _ => ?_)⟩
      · skip
        refine ⟨_, rfl, _, rfl, _, rfl, _, rfl, _, _, rfl, rfl, again H1 _ kp1 hd1 fun H2 e1 r1 kp2 hd2 hr1 g1 => ?_⟩
        refine ⟨_, rfl, _, rfl, _, rfl, _, rfl, _, rfl, _, _, rfl, rfl, again H2 _ (kp1.trans kp2) hd2 fun H3 e2 r2 kp3 hd3 hr2 g2 => ⟨(by show 3 ≤ sizeLine; decide), fun p hp => ?_⟩⟩
        have Sp := same_upd (o := .tup [.str "join", r1, r2]) hp
        exact k _ (.app sJoin [e1, e2]) _ (((kp1.trans kp2).trans kp3).trans (Kp.of_same Sp)) (hd3.same Sp) (Rep.l (SqT.of upd_same) (.cons .w (.cons ((hr1.tups (hd2.tups kp3)).same Sp) (.cons (hr2.same Sp) .nil)))) (.join g1 g2)
      refine ⟨_, rfl, rfl, _, rfl, ite_both (fun _ => ?_) (fun _ => ?_)⟩
      · refine ⟨_, rfl, _, rfl, _, rfl, _, rfl, _, _, rfl, rfl, again H1 _ kp1 hd1 fun H2 e1 r1 kp2 hd2 hr1 g1 => ⟨(by show 2 ≤ sizeLine; decide), fun p hp => ?_⟩⟩
        have Sp := same_upd (o := .tup [.str "word", r1]) hp
        exact k _ (.app sWord [e1]) _ ((kp1.trans kp2).trans (Kp.of_same Sp)) (hd2.same Sp) (Rep.l (SqT.of upd_same) (.cons .w (.cons (hr1.same Sp) .nil))) (.word g1)
      refine ⟨_, rfl, _, _, rfl, rfl, _, rfl, ite_both (fun _ => ?_) (fun _ => ?_)⟩
      · skip
        refine ⟨(by show 2 ≤ sizeLine; decide), fun L hL => ?_⟩
        have nL1 : L ≠ h := fun z => hd1.ne (z ▸ hL)
        have SL := same_upd (o := .lst [.str "head", .str "tail"]) hL
        have hL1 : upd H1 L (.lst [.str "head", .str "tail"]) L = some (.lst [.str "head", .str "tail"]) := upd_same
        have hd1' := hd1.same SL
        have kp1' := kp1.trans (Kp.of_same SL)
        generalize upd H1 L (.lst [.str "head", .str "tail"]) = H1' at *
        have fin : ∀ (x : Str), (x = sHead ∨ x = sTail) → ∀ (H2 : Hp) (e1 : E) (r1 : V), Kp [h] H1' H2 → HandAt H2 h dl → Rep K H2 e1.t r1 → GenE ps cs e' e1 → ∀ p, H2 p = none → Q (.ref p) (upd H2 p (.tup [.str x, r1])) := by
          intro x hx H2 e1 r1 kp2 hd2 hr1 g1 p hp
          have Sp := same_upd (o := .tup [.str x, r1]) hp
          refine k _ (.app x [e1]) _ ((kp1'.trans kp2).trans (Kp.of_same Sp)) (hd2.same Sp) (Rep.l (SqT.of upd_same) (.cons .w (.cons (hr1.same Sp) .nil))) ?_
          rcases hx with rfl | rfl
          · exact .head g1
          · exact .tail g1
        refine ⟨_, rfl, _, _, rfl, rfl, (by show (0 : Int) < 2; decide), ?_⟩
        rcases (show ((kd : Nat) : Int) % 2 = 0 ∨ ((kd : Nat) : Int) % 2 = 1 by omega) with hk | hk
        · refine ⟨L, _, 0, _, rfl, congrArg V.int hk, SqL.of hL1, at0, ?_⟩
          exact ⟨_, rfl, _, rfl, _, rfl, _, rfl, _, _, rfl, rfl, again H1' _ kp1' hd1' fun H2 e1 r1 kp2 hd2 hr1 g1 => ⟨(by show 2 ≤ sizeLine; decide), fun p hp => fin sHead (.inl rfl) H2 e1 r1 kp2 hd2 hr1 g1 p hp⟩⟩
        · refine ⟨L, _, 1, _, rfl, congrArg V.int hk, SqL.of hL1, at1, ?_⟩
          exact ⟨_, rfl, _, rfl, _, rfl, _, rfl, _, _, rfl, rfl, again H1' _ kp1' hd1' fun H2 e1 r1 kp2 hd2 hr1 g1 => ⟨(by show 2 ≤ sizeLine; decide), fun p hp => fin sTail (.inr rfl) H2 e1 r1 kp2 hd2 hr1 g1 p hp⟩⟩
      refine ⟨_, rfl, ca, _, rfl, .inl (SqL.of (hcaL kp1)), rfl, ?_⟩
      have hul : cs.length = us.length := Paired.length hcs
      by_cases hc0 : cs.length = 0
      · rw [decide_eq_true (show V.int ((us.length : Nat) : Int) = V.int 0 by rw [← hul, hc0]; rfl)]
        refine ⟨_, rfl, iteT ?_⟩
        refine ⟨(by show 2 ≤ sizeLine; decide), fun L hL => ?_⟩
        have nL1 : L ≠ h := fun z => hd1.ne (z ▸ hL)
        have SL := same_upd (o := .lst [.str "head", .str "tail"]) hL
        have hL1 : upd H1 L (.lst [.str "head", .str "tail"]) L = some (.lst [.str "head", .str "tail"]) := upd_same
        have hd1' := hd1.same SL
        have kp1' := kp1.trans (Kp.of_same SL)
        generalize upd H1 L (.lst [.str "head", .str "tail"]) = H1' at *
        have fin : ∀ (x : Str), (x = sHead ∨ x = sTail) → ∀ (H2 : Hp) (e1 : E) (r1 : V), Kp [h] H1' H2 → HandAt H2 h dl → Rep K H2 e1.t r1 → GenE ps cs e' e1 → ∀ p, H2 p = none → Q (.ref p) (upd H2 p (.tup [.str x, r1])) := by
          intro x hx H2 e1 r1 kp2 hd2 hr1 g1 p hp
          have Sp := same_upd (o := .tup [.str x, r1]) hp
          refine k _ (.app x [e1]) _ ((kp1'.trans kp2).trans (Kp.of_same Sp)) (hd2.same Sp) (Rep.l (SqT.of upd_same) (.cons .w (.cons (hr1.same Sp) .nil))) ?_
          rcases hx with rfl | rfl
          · exact .head g1
          · exact .tail g1
        refine ⟨_, rfl, _, _, rfl, rfl, (by show (0 : Int) < 2; decide), ?_⟩
        rcases (show ((kd : Nat) : Int) % 2 = 0 ∨ ((kd : Nat) : Int) % 2 = 1 by omega) with hk | hk
        · refine ⟨L, _, 0, _, rfl, congrArg V.int hk, SqL.of hL1, at0, ?_⟩
          exact ⟨_, rfl, _, rfl, _, rfl, _, rfl, _, _, rfl, rfl, again H1' _ kp1' hd1' fun H2 e1 r1 kp2 hd2 hr1 g1 => ⟨(by show 2 ≤ sizeLine; decide), fun p hp => fin sHead (.inl rfl) H2 e1 r1 kp2 hd2 hr1 g1 p hp⟩⟩
        · refine ⟨L, _, 1, _, rfl, congrArg V.int hk, SqL.of hL1, at1, ?_⟩
          exact ⟨_, rfl, _, rfl, _, rfl, _, rfl, _, _, rfl, rfl, again H1' _ kp1' hd1' fun H2 e1 r1 kp2 hd2 hr1 g1 => ⟨(by show 2 ≤ sizeLine; decide), fun p hp => fin sTail (.inr rfl) H2 e1 r1 kp2 hd2 hr1 g1 p hp⟩⟩
      · rw [decide_eq_false (show ¬ V.int ((us.length : Nat) : Int) = V.int 0 from fun q => by have := V.int.inj q; omega)]
        refine ⟨_, rfl, iteF ?_⟩
        refine ⟨_, rfl, _, rfl, _, rfl, ca, _, rfl, .inl (SqL.of (hcaL kp1)), h, dl, cs.length, by rw [hul]; rfl, hd1, by omega, by omega, fun H2 rn kp2 hd2 hrn => ?_⟩
        have kp02 := kp1.trans kp2
        obtain ⟨⟨g, gm⟩, hg⟩ : ∃ c, cs[rn]? = some c := ⟨_, List.getElem?_eq_getElem hrn⟩
        obtain ⟨u, hu1, ua, rfl, hu2⟩ := (CallsAt.tups (hh.tups kp02) hcs).get hg
        have hgm := List.mem_of_getElem? hg
        have hgm3 : gm ≤ 3 := hc3 _ hgm
        refine ⟨ca, _, _, _, rfl, rfl, SqL.of (hcaL kp02), atI_nat hu1, ua, _, rfl, hu2, rfl, _, _, rfl, _, _, rfl, rfl, ?_⟩
        refine ⟨_, rfl, (by show 1 ≤ sizeLine; decide), fun t1 ht1 => ?_⟩
        have T1 := same_upd (o := .tup [.str g]) ht1
        have ht1T : SqT K (upd H2 t1 (.tup [.str g])) t1 [.str g] := SqT.of upd_same
        have kp3 := kp02.trans (Kp.of_same T1)
        have hd3 := hd2.same T1
        generalize upd H2 t1 (.tup [.str g]) = H3 at *
        refine ⟨_, rfl, _, rfl, by omega, by omega, fun L hL => ?_⟩
        have nL1 : L ≠ h := fun z => hd3.ne (z ▸ hL)
        have nL2 : L ≠ dl := fun z => hd3.ne2 (z ▸ hL)
        have hL0 : H L = none := kp3.free hL
        refine lc_range (lo := 0) (n := gm) (fun i H' => ∃ (es : List E) (vs : List V), Kp [h] H3 H' ∧ HandAt H' h dl ∧ H' L = some (.lst vs) ∧ Reps K H' (es.map E.t) vs ∧ es.length = i ∧ ∀ x ∈ es, GenE ps cs e' x) ⟨[], [], Kp.of_same (same_upd hL), hd3.same (same_upd hL), upd_same, .nil, rfl, fun _ h => nomatch h⟩ ?_ ?_
        · rintro i H' hi ⟨es, vs, c1, c2, c3, c4, c5, c6⟩
          have hvl := c4.length
          rw [List.length_map] at hvl
          refine ⟨rfl, ?_⟩
          refine ⟨_, rfl, _, rfl, _, rfl, _, rfl, _, _, rfl, rfl, again H' _ (kp3.trans c1) c2 fun H4 ex r kp4 hd4 hr4 hge => ?_⟩
          have l3 := kp4.keep L _ (by simpa using nL1) c3
          have tt4 : Tups H4 (upd H4 L (.lst (vs ++ [r]))) := Tups.upd l3 trivial
          refine ⟨vs, l3, by omega, es ++ [ex], vs ++ [r], (c1.trans kp4).upd (.inr hL), hd4.upd nL1 nL2, upd_same, ?_, by rw [List.length_append, c5]; rfl, fun u hu => ?_⟩
          · rw [List.map_append]; exact ((c4.tups (c2.tups kp4)).tups tt4).snoc (hr4.tups tt4)
          · rcases List.mem_append.mp hu with hu | hu
            · exact c6 u hu
            · rw [List.mem_singleton.mp hu]; exact hge
        · rintro H' ⟨es, vs, c1, c2, c3, c4, c5, c6⟩
          refine ⟨L, vs, rfl, SqL.of c3, fun l H5 S5 hT => ?_⟩
          have hvl := c4.length
          rw [List.length_map] at hvl
          refine ⟨t1, l, _, _, rfl, rfl, (ht1T.tups (hd3.tups c1)).same S5, hT, by rw [hvl, c5]; show 1 + gm ≤ sizeLine; omega, fun p H6 S6 hp6 => ?_⟩
          have S56 := S5.trans S6
          refine k _ (.app g es) _ ((kp3.trans c1).trans (Kp.of_same S56)) (c2.same S56) ?_ (.call (by rw [c5]; exact hgm) c6)
          rw [E.t_app]
          exact Rep.l hp6 (.cons .w (c4.same S56))
theorem ok_expr {f fT fV : Addr} {fd fdT fdV : FuncData} (B : Bl mg) (D : Dfn K mg "_law_expression" sExpr ["_law_hand", "_law_parameters", "_law_calls", "_law_depth"] f fd)
    (DT : Dfn K mg "_law_take" sTake ["_law_hand", "_law_many"] fT fdT) (GT0 : FnOk P w K mg base CX0 4 fT fdT ["_law_hand", "_law_many"] spTake)
    (DV : Dfn K mg "_law_value" sValue ["_law_hand", "_law_depth"] fV fdV) (GV0 : FnOk P w K mg base CX0 4 fV fdV ["_law_hand", "_law_depth"] (spValue K 2)) :
    ∀ d, FnOk P w K mg base CX0 (4 + d + 1) f fd ["_law_hand", "_law_parameters", "_law_calls", "_law_depth"] (spExpr K d)
  | 0 => expr_step B D DT GT0 DV GV0 0 fnNo
  | d + 1 => expr_step B D DT GT0 DV GV0 (d + 1) (ok_expr B D DT GT0 DV GV0 d)
end
end K46
/-! the law's programs. -/
namespace K46
open PySem PySem.Spec PyProof.Rows L2

/-! ### written values -/
def tLit (K : PySem.W.Frag) (t : T) : TE := fun _ H Q => Ret K H Q t
def tLits (K : PySem.W.Frag) (ts : List T) : TA := fun _ H Q => ∀ vs H', Same H H' → Reps K H' ts vs → Q vs H'
section
variable {X : Cx}
theorem _root_.L2.PA.imp {es : List Expr} {t t' : TA} (h : PA X es t) (k : ∀ σ H Q, t' σ H Q → t σ H Q) : PA X es t' := ⟨fun pos pins s σ H Q I q => h.run pos pins s σ H Q I (k σ H Q q)⟩
theorem pe_litW {x : Str} {k : Nat} {pos : Pos} : PE X (.Constant (.str x) k pos) (tLit X.K (.w x)) := pe_str.imp fun σ H Q q => q _ H (Same.refl H) .w
theorem pa_litNil : PA X [] (tLits X.K []) := pa_nil.imp fun σ H Q q => q [] H (Same.refl H) .nil
theorem pa_litCons {e : Expr} {es : List Expr} {t : T} {ts : List T} (h : PE X e (tLit X.K t)) (k : PA X es (tLits X.K ts)) (hs : starEach (e :: es) X.env = (false, eval e X.env) :: starEach es X.env := by rfl) : PA X (e :: es) (tLits X.K (t :: ts)) :=
  (pa_cons h k hs).imp fun σ H Q q => fun r H1 S1 hr => fun vs H2 S2 hvs => q _ _ (S1.trans S2) (.cons (hr.same S2) hvs)
theorem pe_litL {es : List Expr} {x1} {pos : Pos} {ts : List T} (h : PA X es (tLits X.K ts)) (hl : ts.length ≤ 1000) : PE X (.Tuple es x1 pos) (tLit X.K (.l ts)) :=
  (pe_tup h).imp fun σ H Q q => fun vs H1 S1 hvs => ⟨by have := hvs.length; have : sizeLine = 16777216 := rfl; omega, fun p hp => q _ _ (S1.trans (same_upd hp)) (Rep.l (SqT.of upd_same) (hvs.same (same_upd hp)))⟩
end
def fnHas : Fn := ⟨"has", ["w", "v"], .app sIf [.app sSame [.v "w", .v "v"], .q yes, .app "within" [.v "w", .v "v"]]⟩
def fnWithin : Fn := ⟨"within", ["w", "v"], .app sIf [.v "v", .app sIf [.app "has" [.v "w", .app sHead [.v "v"]], .q yes, .app "within" [.v "w", .app sTail [.v "v"]]], .q nil]⟩
def fnPut : Fn := ⟨"put", ["v", "l"], .app sIf [.v "l", .app sJoin [.app sHead [.v "l"], .app "put" [.v "v", .app sTail [.v "l"]]], .app sJoin [.v "v", .q nil]]⟩
def fnTurn : Fn := ⟨"turn", ["l"], .app sIf [.v "l", .app "put" [.app sHead [.v "l"], .app "turn" [.app sTail [.v "l"]]], .q nil]⟩
def libs : List Prog := [[fnHas, fnWithin], [fnPut, fnTurn], [fnPut]]
def callsOf (q : Prog) : Cs := q.map fun f => (f.name, f.ps.length)
def abc : List Str := ["a", "b", "c"]
def names3 : List Str := ["later", "q", "zz"]
def xywv : List Str := ["x", "y", "w", "v"]
structure UsersOk (lib us : Prog) : Prop where
  le : us.length ≤ 2
  each : ∀ i u, us[i]? = some u → names3[i]? = some u.name ∧ (∃ n, 1 ≤ n ∧ n ≤ 3 ∧ u.ps = abc.take n) ∧ GenE u.ps (callsOf lib ++ callsOf (us.take i)) 2 u.body
structure GenP (m : Nat) (p : Prog) : Prop where
  is : ∃ (lib us : Prog) (body : E), lib ∈ libs ∧ UsersOk lib us ∧ GenE (xywv.take m) (callsOf lib ++ callsOf us) 3 body ∧ (p = ⟨"main", xywv.take m, body⟩ :: (lib ++ us) ∨ p = ⟨"main", xywv.take m, body⟩ :: (us ++ lib))
def spLibrary (K : PySem.W.Frag) : Sp := fun vs H Q _ => vs = [] ∧ ∀ (H' : Hp) (L : Addr) (us : List V), Same H H' → H' L = some (.lst us) → Reps K H' (libs.map progT) us → Q (.ref L) H'
def spProgram (K : PySem.W.Frag) : Sp := fun vs H Q _ => ∃ (h dl : Addr) (m : Nat), vs = [.ref h, vint m] ∧ m ≤ 3 ∧ HandAt H h dl ∧ ∀ (H' : Hp) (p : Prog) (r : V), Kp [h] H H' → HandAt H' h dl → Rep K H' (progT p) r → GenP m p → Q r H'
abbrev sLibrary : Stmt := top 60
theorem sc_sLibrary : FnScope ["_law_has", "_law_within", "_law_put", "_law_turn"] [] (defScope sLibrary) := ⟨rfl, rfl, rfl, by decide +kernel, rfl, by decide +kernel, by decide +kernel⟩
abbrev sProgram : Stmt := top 61
theorem sc_sProgram : FnScope ["_law_hand", "_law_inputs", "_law_more", "_law_calls", "_law_one", "_law_functions", "_law_k", "_law_name", "_law_parameters", "_law_main"] ["_law_hand", "_law_inputs"] (defScope sProgram) := ⟨rfl, rfl, rfl, by decide +kernel, rfl, by decide +kernel, by decide +kernel⟩
section
variable {P : Program} {w : World} {K : PySem.W.Frag} {mg : Str → Option Value} {base : Heap}
theorem ok_library {f : Addr} {fd : FuncData} (B : Bl mg) (D : Dfn K mg "_law_library" sLibrary [] f fd) : FnOk P w K mg base CX0 1 f fd [] (spLibrary K) := by
  refine D.F.ok sc_sLibrary (fun vs H Q XE h => ?_) (fun cdv AA outer st H vs Q XE hr h => ?_)
  · obtain ⟨rfl, _⟩ := h
    rfl
  · obtain ⟨rfl, k⟩ := h
    have nd := sc_sLibrary.nd
    refine ⟨_,
      (pss_cons (ps_set (i := 0) nd rfl (.inl rfl) (pe_litL (pa_litCons pe_litW (pa_litCons (pe_litL (pa_litCons pe_litW (pa_litCons pe_litW pa_litNil)) (Nat.le_of_ble_eq_true rfl)) (pa_litCons (pe_litL (pa_litCons pe_litW (pa_litCons (pe_litL (pa_litCons pe_litW (pa_litCons pe_litW (pa_litCons pe_litW pa_litNil))) (Nat.le_of_ble_eq_true rfl)) (pa_litCons (pe_litL (pa_litCons pe_litW (pa_litCons pe_litW pa_litNil)) (Nat.le_of_ble_eq_true rfl)) (pa_litCons (pe_litL (pa_litCons pe_litW (pa_litCons pe_litW (pa_litCons pe_litW pa_litNil))) (Nat.le_of_ble_eq_true rfl)) pa_litNil)))) (Nat.le_of_ble_eq_true rfl)) pa_litNil))) (Nat.le_of_ble_eq_true rfl)))
      (pss_cons (ps_set (i := 1) nd rfl (.inl rfl) (pe_litL (pa_litCons pe_litW (pa_litCons (pe_litL (pa_litCons pe_litW (pa_litCons pe_litW pa_litNil)) (Nat.le_of_ble_eq_true rfl)) (pa_litCons (pe_litL (pa_litCons pe_litW (pa_litCons pe_litW (pa_litCons (pe_litL (pa_litCons pe_litW (pa_litCons (pe_litL (pa_litCons pe_litW (pa_litCons pe_litW (pa_litCons (pe_litL (pa_litCons pe_litW (pa_litCons pe_litW pa_litNil)) (Nat.le_of_ble_eq_true rfl)) pa_litNil))) (Nat.le_of_ble_eq_true rfl)) (pa_litCons (pe_litL (pa_litCons pe_litW (pa_litCons pe_litW pa_litNil)) (Nat.le_of_ble_eq_true rfl)) (pa_litCons (pe_litL (pa_litCons pe_litW (pa_litCons pe_litW (pa_litCons (pe_litL (pa_litCons pe_litW (pa_litCons pe_litW pa_litNil)) (Nat.le_of_ble_eq_true rfl)) pa_litNil))) (Nat.le_of_ble_eq_true rfl)) pa_litNil)))) (Nat.le_of_ble_eq_true rfl)) (pa_litCons (pe_litL (pa_litCons pe_litW (pa_litCons (pe_litL pa_litNil (Nat.le_of_ble_eq_true rfl)) pa_litNil)) (Nat.le_of_ble_eq_true rfl)) pa_litNil)))) (Nat.le_of_ble_eq_true rfl)) pa_litNil))) (Nat.le_of_ble_eq_true rfl)))
      (pss_cons (ps_set (i := 2) nd rfl (.inl rfl) (pe_litL (pa_litCons pe_litW (pa_litCons (pe_litL (pa_litCons pe_litW (pa_litCons pe_litW pa_litNil)) (Nat.le_of_ble_eq_true rfl)) (pa_litCons (pe_litL (pa_litCons pe_litW (pa_litCons pe_litW (pa_litCons (pe_litL (pa_litCons pe_litW (pa_litCons (pe_litL (pa_litCons pe_litW (pa_litCons pe_litW pa_litNil)) (Nat.le_of_ble_eq_true rfl)) (pa_litCons (pe_litL (pa_litCons pe_litW (pa_litCons pe_litW (pa_litCons (pe_litL (pa_litCons pe_litW (pa_litCons pe_litW pa_litNil)) (Nat.le_of_ble_eq_true rfl)) pa_litNil))) (Nat.le_of_ble_eq_true rfl)) pa_litNil))) (Nat.le_of_ble_eq_true rfl)) (pa_litCons (pe_litL (pa_litCons pe_litW (pa_litCons pe_litW (pa_litCons (pe_litL (pa_litCons pe_litW (pa_litCons (pe_litL pa_litNil (Nat.le_of_ble_eq_true rfl)) pa_litNil)) (Nat.le_of_ble_eq_true rfl)) pa_litNil))) (Nat.le_of_ble_eq_true rfl)) pa_litNil)))) (Nat.le_of_ble_eq_true rfl)) pa_litNil))) (Nat.le_of_ble_eq_true rfl)))
      (pss_cons (ps_set (i := 3) nd rfl (.inl rfl) (pe_litL (pa_litCons pe_litW (pa_litCons (pe_litL (pa_litCons pe_litW pa_litNil) (Nat.le_of_ble_eq_true rfl)) (pa_litCons (pe_litL (pa_litCons pe_litW (pa_litCons pe_litW (pa_litCons (pe_litL (pa_litCons pe_litW (pa_litCons (pe_litL (pa_litCons pe_litW (pa_litCons pe_litW pa_litNil)) (Nat.le_of_ble_eq_true rfl)) (pa_litCons (pe_litL (pa_litCons pe_litW (pa_litCons (pe_litL (pa_litCons pe_litW (pa_litCons pe_litW pa_litNil)) (Nat.le_of_ble_eq_true rfl)) pa_litNil)) (Nat.le_of_ble_eq_true rfl)) pa_litNil))) (Nat.le_of_ble_eq_true rfl)) (pa_litCons (pe_litL (pa_litCons pe_litW (pa_litCons (pe_litL pa_litNil (Nat.le_of_ble_eq_true rfl)) pa_litNil)) (Nat.le_of_ble_eq_true rfl)) pa_litNil)))) (Nat.le_of_ble_eq_true rfl)) pa_litNil))) (Nat.le_of_ble_eq_true rfl)))
      (pss_one (ps_ret (pe_lst (pa_cons (pe_tup (pa_cons (pv 0) (pa_cons (pv 1) pa_nil))) (pa_cons (pe_tup (pa_cons (pv 2) (pa_cons (pv 3) pa_nil))) (pa_cons (pe_tup (pa_cons (pv 2) pa_nil)) pa_nil))))))))))
      , ?_⟩
    refine fun r1 H1 S1 h1 => fun r2 H2 S2 h2 => fun r3 H3 S3 h3 => fun r4 H4 S4 h4 => ?_
    refine ⟨_, rfl, _, rfl, (by show 2 ≤ sizeLine; decide), fun p1 hp1 => ⟨_, rfl, _, rfl, (by show 2 ≤ sizeLine; decide), fun p2 hp2 => ⟨_, rfl, (by show 1 ≤ sizeLine; decide), fun p3 hp3 => ⟨(by show 3 ≤ sizeLine; decide), fun L hL => ?_⟩⟩⟩⟩
    have T1 := same_upd (o := .tup [r1, r2]) hp1
    have T2 := same_upd (o := .tup [r3, r4]) hp2
    have T3 := same_upd (o := .tup [r3]) hp3
    have T4 := same_upd (o := .lst [.ref p1, .ref p2, .ref p3]) hL
    have h1 := (((((((h1.same S2).same S3).same S4).same T1).same T2).same T3).same T4)
    have h2 := ((((((h2.same S3).same S4).same T1).same T2).same T3).same T4)
    have h3 := (((((h3.same S4).same T1).same T2).same T3).same T4)
    have h4 := ((((h4.same T1).same T2).same T3).same T4)
    have q1 : Rep K _ (progT [fnHas, fnWithin]) (.ref p1) := Rep.l (SqT.same T4 (SqT.same T3 (SqT.same T2 (SqT.of upd_same)))) (.cons h1 (.cons h2 .nil))
    have q2 : Rep K _ (progT [fnPut, fnTurn]) (.ref p2) := Rep.l (SqT.same T4 (SqT.same T3 (SqT.of upd_same))) (.cons h3 (.cons h4 .nil))
    have q3 : Rep K _ (progT [fnPut]) (.ref p3) := Rep.l (SqT.same T4 (SqT.of upd_same)) (.cons h3 .nil)
    exact k _ L _ (((((((S1.trans S2).trans S3).trans S4).trans T1).trans T2).trans T3).trans T4) upd_same (.cons q1 (.cons q2 (.cons q3 .nil)))
theorem libs_ok : ∀ lib ∈ libs, lib.length ≤ 2 ∧ ∀ f ∈ lib, f.ps.length ≤ 3 := by
  intro lib h
  simp only [libs, List.mem_cons, List.not_mem_nil, or_false] at h
  rcases h with rfl | rfl | rfl
  · exact ⟨by decide, by intro f hf; simp only [List.mem_cons, List.not_mem_nil, or_false] at hf; rcases hf with rfl | rfl <;> decide⟩
  · exact ⟨by decide, by intro f hf; simp only [List.mem_cons, List.not_mem_nil, or_false] at hf; rcases hf with rfl | rfl <;> decide⟩
  · exact ⟨by decide, by intro f hf; simp only [List.mem_cons, List.not_mem_nil, or_false] at hf; subst hf; decide⟩
theorem users_ps {lib us : Prog} (h : UsersOk lib us) : ∀ u ∈ us, u.ps.length ≤ 3 := by
  intro u hu
  obtain ⟨i, hi⟩ := List.getElem?_of_mem hu
  obtain ⟨_, ⟨n, _, h2, h3⟩, _⟩ := h.each i u hi
  rw [h3, List.length_take]
  omega
theorem calls_le {lib us : Prog} (h1 : ∀ f ∈ lib, f.ps.length ≤ 3) (h2 : ∀ f ∈ us, f.ps.length ≤ 3) : ∀ c ∈ callsOf lib ++ callsOf us, c.2 ≤ 3 := by
  intro c hc
  rcases List.mem_append.mp hc with hc | hc
  · obtain ⟨f, hf, rfl⟩ := List.mem_map.mp hc
    exact h1 f hf
  · obtain ⟨f, hf, rfl⟩ := List.mem_map.mp hc
    exact h2 f hf
theorem ok_program {f fT fL fE : Addr} {fd fdT fdL fdE : FuncData} (B : Bl mg) (D : Dfn K mg "_law_program" sProgram ["_law_hand", "_law_inputs"] f fd)
    (DT : Dfn K mg "_law_take" sTake ["_law_hand", "_law_many"] fT fdT) (GT : FnOk P w K mg base CX0 8 fT fdT ["_law_hand", "_law_many"] spTake)
    (DL : Dfn K mg "_law_library" sLibrary [] fL fdL) (GL : FnOk P w K mg base CX0 8 fL fdL [] (spLibrary K))
    (DE : Dfn K mg "_law_expression" sExpr ["_law_hand", "_law_parameters", "_law_calls", "_law_depth"] fE fdE) (GE : FnOk P w K mg base CX0 8 fE fdE ["_law_hand", "_law_parameters", "_law_calls", "_law_depth"] (spExpr K 3)) :
    FnOk P w K mg base CX0 9 f fd ["_law_hand", "_law_inputs"] (spProgram K) := by
  refine D.F.ok sc_sProgram (fun vs H Q XE h => ?_) (fun cdv AA outer st H vs Q XE hr h => ?_)
  · obtain ⟨h, dl, m, rfl, _⟩ := h
    rfl
  · obtain ⟨h, dl, m, rfl, hm3, hh, k⟩ := h
    have nd := sc_sProgram.nd
    refine ⟨_,
      (pss_cons (ps_set (i := 2) nd rfl (.inl rfl) (pe_ix ix_list (pe_call0 GL hr (by rfl) DL.g DL.F.kp DL.b .nil pass0) (pe_call GT hr (by rfl) DT.g DT.F.kp DT.b .nil pass0 (pa_cons (pv 0) (pa_cons pe_int pa_nil))) (fun _ _ => rfl)))
      (pss_cons (ps_setLc (i := 3) (te := tTup (tCons (tOp (rIxT K) (tVar 4) (tC (.int 0))) (tCons (tCB (fun xs H Q => ∃ p ys, xs = [.ref p] ∧ (SqL K H p ys ∨ SqT K H p ys) ∧ Q (.int ys.length) H) (tCons (tOp (rIxT K) (tVar 4) (tC (.int 1))) tNil)) tNil))) (own := [("_law_one", 4)]) (g := gName 4) (tt := tYes) (by rfl) nd rfl rfl (sw_true rfl rfl rfl (by decide +kernel)) (pi_tup (pv 2)) (blkOk_by (own := [("_law_one", 4)]) (N := ["_law_hand", "_law_inputs", "_law_more", "_law_calls", "_law_one", "_law_functions", "_law_k", "_law_name", "_law_parameters", "_law_main"]) (sc := defScope sProgram) (by decide +kernel)) (fun _ _ _ _ _ => by exact (pg_name (i := 4) nd rfl (Or.inl rfl))) (fun _ _ _ _ _ => by exact pts_nil) (fun _ _ _ _ _ => by exact (pe_tup (pa_cons (pe_ix ix_tup (pv 4) pe_int (fun _ _ => rfl)) (pa_cons (pe_callB call_len_seq (by rfl) B.len PySem.boot_len (pa_cons (pe_ix ix_tup (pv 4) pe_int (fun _ _ => rfl)) pa_nil)) pa_nil)))))
      (pss_cons (ps_set (i := 5) nd rfl (.inl rfl) (pe_lst pa_nil))
      (pss_cons (ps_for PassesOwn.never rfl (pi_range1 (by rfl) B.range (pa_cons (pe_call GT hr (by rfl) DT.g DT.F.kp DT.b .nil pass0 (pa_cons (pv 0) (pa_cons pe_int pa_nil))) pa_nil)) (pg_name (i := 6) nd rfl (.inl rfl))
      (pss_cons (ps_set (i := 7) nd rfl (.inl rfl) (pe_ix ix_list (pe_lst (pa_cons pe_str (pa_cons pe_str (pa_cons pe_str pa_nil)))) (pv 6) (fun _ _ => rfl)))
      (pss_cons (ps_set (i := 8) nd rfl (.inl rfl) (pe_callTy call_tupOf (by rfl) B.tuple PyProof.Rows.boot_tuple (pa_cons (pe_slice sl_list (pe_lst (pa_cons pe_str (pa_cons pe_str (pa_cons pe_str pa_nil)))) po_none (po_some (pe_op op_add pe_int (pe_call GT hr (by rfl) DT.g DT.F.kp DT.b .nil pass0 (pa_cons (pv 0) (pa_cons pe_int pa_nil)))))) pa_nil)))
      (pss_cons (ps_expr (pe_bm PySem.F.plainAttrs_list PySem.F.slot_list_append PySem.F.type_list_append mt_append (pv 5) (pa_cons (pe_tup (pa_cons (pv 7) (pa_cons (pv 8) (pa_cons (pe_call GE hr (by rfl) DE.g DE.F.kp DE.b .nil pass0 (pa_cons (pv 0) (pa_cons (pv 8) (pa_cons (pv 3) (pa_cons pe_int pa_nil))))) pa_nil)))) pa_nil)))
      (pss_one (ps_expr (pe_bm PySem.F.plainAttrs_list PySem.F.slot_list_append PySem.F.type_list_append mt_append (pv 3) (pa_cons (pe_tup (pa_cons (pv 7) (pa_cons (pe_callB call_len_seq (by rfl) B.len PySem.boot_len (pa_cons (pv 8) pa_nil)) pa_nil))) pa_nil))))))))
      (pss_cons (ps_set (i := 8) nd rfl (.inl rfl) (pe_callTy call_tupOf (by rfl) B.tuple PyProof.Rows.boot_tuple (pa_cons (pe_slice sl_list (pe_lst (pa_cons pe_str (pa_cons pe_str (pa_cons pe_str (pa_cons pe_str pa_nil))))) po_none (po_some (pv 1))) pa_nil)))
      (pss_cons (ps_set (i := 9) nd rfl (.inl rfl) (pe_tup (pa_cons pe_str (pa_cons (pv 8) (pa_cons (pe_call GE hr (by rfl) DE.g DE.F.kp DE.b .nil pass0 (pa_cons (pv 0) (pa_cons (pv 8) (pa_cons (pv 3) (pa_cons pe_int pa_nil))))) pa_nil)))))
      (pss_cons (ps_if (pt_cmpR op_eq (pe_call GT hr (by rfl) DT.g DT.F.kp DT.b .nil pass0 (pa_cons (pv 0) (pa_cons pe_int pa_nil))) pe_int (nomark _))
      (pss_one (ps_ret (pe_op op_catS (pe_op op_catS (pe_tup (pa_cons (pv 9) pa_nil)) (pv 2)) (pe_callTy call_tupOf (by rfl) B.tuple PyProof.Rows.boot_tuple (pa_cons (pv 5) pa_nil)))))
      pss_nil)
      (pss_one (ps_ret (pe_op op_catS (pe_op op_catS (pe_tup (pa_cons (pv 9) pa_nil)) (pe_callTy call_tupOf (by rfl) B.tuple PyProof.Rows.boot_tuple (pa_cons (pv 5) pa_nil))) (pv 2)))))))))))
      , ?_⟩
    have hs : sizeLine = 16777216 := rfl
    refine ⟨rfl, fun H1 L lus S1 hL hlus => ⟨_, rfl, h, dl, 3, rfl, hh.same S1, by decide, by decide, fun H2 r kp12 hd2 hr3 => ?_⟩⟩
    have hd1 := hh.same S1
    have hlul := hlus.length
    rw [List.length_map] at hlul
    have nLh : L ≠ h := fun z => by
      obtain ⟨n, ds, a1, _⟩ := hd1.at_
      rw [z, a1] at hL
      have := congrArg (fun o => match o with | some (HO.lst xs) => xs.length | _ => 0) hL
      simp only [List.length_cons, List.length_nil] at this
      rw [hlul] at this
      exact absurd this (by decide)
    obtain ⟨lib, hlib⟩ : ∃ lib, libs[r]? = some lib := ⟨_, List.getElem?_eq_getElem hr3⟩
    have hlm := List.mem_of_getElem? hlib
    obtain ⟨hll, hlp⟩ := libs_ok lib hlm
    obtain ⟨lv, hlv1, hlv2⟩ := (hlus.tups (hd1.tups kp12)).get (t := progT lib) (by rw [List.getElem?_map, hlib]; rfl)
    have kp02 : Kp [h] H H2 := (Kp.of_same S1).trans kp12
    refine ⟨L, _, _, lv, rfl, rfl, SqL.of (kp12.keep L _ (by simpa using nLh) hL), atI_nat hlv1, ?_⟩
    obtain ⟨a, xs, rfl, hT, hxs⟩ := (show Rep K H2 (.l (lib.map Fn.t)) lv from hlv2).l_eq
    have hxl := hxs.length
    rw [List.length_map] at hxl
    clear hlus hlv1 hlv2 hL kp12
    -- calls
    refine ⟨_, rfl, a, rfl, ⟨xs, hT⟩, fun C hC => ?_⟩
    have hC0 : H C = none := kp02.free hC
    have nCh : C ≠ h := fun z => hd2.ne (z ▸ hC)
    have nCd : C ≠ dl := fun z => hd2.ne2 (z ▸ hC)
    refine lc_tup (xs := xs) (fun i H' => ∃ us : List V, Same H2 H' ∧ H' C = some (.lst us) ∧ CallsAt K H' (callsOf (lib.take i)) us) ⟨[], same_upd hC, upd_same, .nil⟩ (fun i H' _ h => by obtain ⟨us, S, _⟩ := h; exact hT.same S) ?_ ?_
    · rintro i x H' hx ⟨us, S, c1, c2⟩
      obtain ⟨t, ht, hyr⟩ := hxs.getV hx
      rw [List.getElem?_map, Option.map_eq_some_iff] at ht
      obtain ⟨g, hg, rfl⟩ := ht
      have hi := (List.getElem?_eq_some_iff.mp hg).1
      obtain ⟨ya, ys, rfl, hyT, hys⟩ := (hyr.same S).l_eq
      obtain ⟨y0, r0, rfl, e0, hys⟩ := hys.cons_eq
      obtain ⟨y1, r1, rfl, e1, hys⟩ := hys.cons_eq
      have e0 := e0.w_eq
      subst e0
      obtain ⟨pa, ps, rfl, hpT, hps⟩ := e1.l_eq
      have hpl := hps.length
      rw [List.length_map] at hpl
      have hul : (callsOf (lib.take i)).length = us.length := Paired.length c2
      unfold callsOf at hul
      rw [List.length_map, List.length_take] at hul
      refine ⟨rfl, ?_⟩
      refine ⟨_, rfl, ya, _, _, _, rfl, rfl, hyT, at0, _, rfl, ya, _, _, _, rfl, rfl, hyT, at1, pa, _, rfl, .inr hpT, (by show 2 ≤ sizeLine; decide), fun c hc => ?_⟩
      have Sc := same_upd (o := .tup [.str g.name, .int ((ps.length : Nat) : Int)]) hc
      have c1' := Sc _ _ c1
      have tt : Tups (upd H' c (.tup [.str g.name, .int ((ps.length : Nat) : Int)])) (upd (upd H' c (.tup [.str g.name, .int ((ps.length : Nat) : Int)])) C (.lst (us ++ [.ref c]))) := Tups.upd c1' trivial
      refine ⟨us, c1', by omega, us ++ [.ref c], (S.trans Sc).upd hC, upd_same, ?_⟩
      have htk : lib.take (i + 1) = lib.take i ++ [g] := by rw [List.take_succ, hg]; rfl
      unfold callsOf
      rw [htk, List.map_append]
      refine (CallsAt.tups tt (CallsAt.tups Sc.tups c2)).append (.cons ⟨c, rfl, ?_⟩ .nil)
      show SqT K _ c [.str g.name, vint g.ps.length]
      rw [← hpl]
      exact SqT.tups tt (SqT.of upd_same)
    · rintro H3 ⟨cus, S3, c1, c2⟩
      rw [hxl, List.take_length] at c2
      have hT3 := hT.same S3
      have hxs3 := hxs.same S3
      have hd3 := hd2.same S3
      have kp03 := kp02.trans (Kp.of_same S3)
      clear hT hxs hd2 kp02 S3 hC
      refine ⟨(by show 0 ≤ sizeLine; decide), fun F hF => ?_⟩
      have SF := same_upd (o := .lst []) hF
      have hF0 : H F = none := kp03.free hF
      have nFh : F ≠ h := fun z => hd3.ne (z ▸ hF)
      have nFd : F ≠ dl := fun z => hd3.ne2 (z ▸ hF)
      have nCF : C ≠ F := ne_of_none c1 hF
      have hd4 := hd3.same SF
      refine ⟨_, rfl, h, dl, 3, rfl, hd4, by decide, by decide, fun H5 um kp45 hd5 hum => ⟨_, rfl, by omega, by omega, ?_⟩⟩
      have kp05 := (kp03.trans (Kp.of_same SF)).trans kp45
      have tt35 : Tups H3 H5 := SF.tups.trans (hd4.tups kp45)
      refine for_range (lo := 0) (n := um) (fun i σ' H' => ∃ (us : Prog) (uvs cvs : List V) (x6 x7 x8 : Option V), σ' = [some (.ref h), some (vint m), some (.ref a), some (.ref C), none, some (.ref F), x6, x7, x8, none] ∧ Kp [h] H H' ∧ HandAt H' h dl ∧ Tups H3 H' ∧ H' C = some (.lst cvs) ∧ CallsAt K H' (callsOf lib ++ callsOf us) cvs ∧
        H' F = some (.lst uvs) ∧ Reps K H' (us.map Fn.t) uvs ∧ us.length = i ∧ UsersOk lib us) ?_ ?_ ?_
      · refine ⟨[], [], cus, _, _, _, rfl, kp05, hd5, tt35, kp45.keep C _ (by simpa using nCh) (SF _ _ c1), ?_, kp45.keep F _ (by simpa using nFh) upd_same, .nil, rfl, ⟨Nat.zero_le _, fun i u h => by simp at h⟩⟩
        show CallsAt K H5 (callsOf lib ++ []) cus
        rw [List.append_nil]
        exact CallsAt.tups tt35 c2
      · rintro i σ' H' hi ⟨us, uvs, cvs, x6, x7, x8, rfl, d1, d2, d3, d4, d5, d6, d7, d8, d9⟩
        rw [Int.zero_add]
        obtain ⟨nmx, hnm⟩ : ∃ x, names3[i]? = some x := ⟨_, List.getElem?_eq_getElem (by show i < 3; omega)⟩
        have hui : us.length ≤ 2 := d9.le
        have hulen := Reps.length d7
        rw [List.length_map] at hulen
        have hcvl : (callsOf lib ++ callsOf us).length = cvs.length := Paired.length d5
        have hcl : (callsOf lib ++ callsOf us).length ≤ 12 := by
          rw [List.length_append]; unfold callsOf; rw [List.length_map, List.length_map]; omega
        refine ⟨(by show 3 ≤ sizeLine; decide), fun p hp => ?_⟩
        have S1' := same_upd (o := .lst (names3.map V.str)) hp
        refine ⟨_, rfl, p, _, _, .str nmx, rfl, rfl, SqL.of (show upd H' p (.lst (names3.map V.str)) p = _ from upd_same), atI_nat (by rw [List.getElem?_map, hnm]; rfl), ?_⟩
        -- the parameters
        refine ⟨(by show 3 ≤ sizeLine; decide), fun p2 hp2 => ?_⟩
        have S2' := same_upd (o := .lst (abc.map V.str)) hp2
        have hd6 := (d2.same S1').same S2'
        refine ⟨_, rfl, h, dl, 3, rfl, hd6, by decide, by decide, fun H7 r5 kp67 hd7 hr5 => ?_⟩
        have np2 : p2 ≠ h := fun z => (d2.same S1').ne (z ▸ hp2)
        refine ⟨_, _, rfl, rfl, _, rfl, p2, _, rfl, SqL.of (kp67.keep p2 _ (by simpa using np2) (show upd (upd H' p (.lst (names3.map V.str))) p2 (.lst (abc.map V.str)) p2 = _ from upd_same)), fun p3 hp3 => ?_⟩
        have e1r : (1 : Int) + ((r5 : Nat) : Int) = ((1 + r5 : Nat) : Int) := by omega
        have ecut : cutV (abc.map V.str) none (some ((1 : Int) + ((r5 : Nat) : Int))) = (abc.take (1 + r5)).map V.str := by
          rw [e1r, cutV_take, List.map_take]
        rw [ecut]
        have S3' := same_upd (o := .lst ((abc.take (1 + r5)).map V.str)) hp3
        refine ⟨p3, _, rfl, SqL.of upd_same, fun pt H8 S8 hpt => ?_⟩
        have kp08 : Kp [h] H' H8 := ((((Kp.of_same S1').trans (Kp.of_same S2')).trans kp67).trans (Kp.of_same S3')).trans (Kp.of_same S8)
        have hd8 := (hd7.same S3').same S8
        have tt8 := d2.tups kp08
        have hC8 := kp08.keep C _ (by simpa using nCh) d4
        have hF8 := kp08.keep F _ (by simpa using nFh) d6
        have hcs8 := CallsAt.tups tt8 d5
        have d7' := Reps.tups tt8 d7
        have kpA := d1.trans kp08
        have d3' := d3.trans tt8
        have hptl : (abc.take (1 + r5)).length = 1 + r5 := by rw [List.length_take]; show min (1 + r5) 3 = 1 + r5; omega
        clear d1 d2 d3 d4 d5 d6 d7 S1' S2' S3' S8 hd6 hd7 kp67 kp08 tt8 hp hp2 hp3
        have hE : ∀ (Q' : VK), (∀ (Hb : Hp) (ex : E) (r : V), Kp [h] H8 Hb → HandAt Hb h dl → Rep K Hb ex.t r → GenE (abc.take (1 + r5)) (callsOf lib ++ callsOf us) 2 ex → Q' r Hb) → spExpr K 3 [.ref h, .ref pt, .ref C, .int 2] H8 Q' E0 := fun Q' kk =>
          ⟨h, dl, pt, C, 2, abc.take (1 + r5), callsOf lib ++ callsOf us, cvs, rfl, by decide, hd8, hpt, hC8, hcs8, nCh, calls_le hlp (users_ps d9), by omega, hcl, kk⟩
        refine ⟨_, rfl, .inl ⟨rfl, _, SqL.of hF8⟩, _, rfl, _, rfl, _, rfl, _, rfl, _, rfl, hE _ fun H9 ex rx kp89 hd9 hrx hgx => ⟨(by show 3 ≤ sizeLine; decide), fun c hc => ?_⟩⟩
        have Sc := same_upd (o := .tup [.str nmx, .ref pt, rx]) hc
        have tt89 := hd8.tups kp89
        have hF9 := Sc _ _ (kp89.keep F _ (by simpa using nFh) hF8)
        have hC9 := Sc _ _ (kp89.keep C _ (by simpa using nCh) hC8)
        refine ⟨F, _, _, rfl, rfl, hF9, by omega, ?_⟩
        have ttF : Tups (upd H9 c (.tup [.str nmx, .ref pt, rx])) (upd (upd H9 c (.tup [.str nmx, .ref pt, rx])) F (.lst (uvs ++ [.ref c]))) := Tups.upd hF9 trivial
        have hd10 := (hd9.same Sc).upd nFh nFd (o := .lst (uvs ++ [.ref c]))
        have hfn : Rep K (upd (upd H9 c (.tup [.str nmx, .ref pt, rx])) F (.lst (uvs ++ [.ref c]))) (Fn.t ⟨nmx, abc.take (1 + r5), ex⟩) (.ref c) :=
          Rep.l ((SqT.of upd_same).tups ttF) (.cons .w (.cons (Rep.l (((hpt.tups tt89).same Sc).tups ttF) (Reps.words _)) (.cons ((hrx.same Sc).tups ttF) .nil)))
        have d7'' := Reps.tups ttF (Reps.same Sc (Reps.tups tt89 d7'))
        have hcs10 := CallsAt.tups ttF (CallsAt.tups Sc.tups (CallsAt.tups tt89 hcs8))
        have hC10 : upd (upd H9 c (.tup [.str nmx, .ref pt, rx])) F (.lst (uvs ++ [.ref c])) C = some (.lst cvs) := by rw [upd_ne nCF]; exact hC9
        have hF10 : upd (upd H9 c (.tup [.str nmx, .ref pt, rx])) F (.lst (uvs ++ [.ref c])) F = some (.lst (uvs ++ [.ref c])) := upd_same
        have kpB : Kp [h] H (upd (upd H9 c (.tup [.str nmx, .ref pt, rx])) F (.lst (uvs ++ [.ref c]))) := ((kpA.trans kp89).trans (Kp.of_same Sc)).upd (.inr hF0)
        have hptB := ((hpt.tups tt89).same Sc).tups ttF
        have d3'' := ((d3'.trans tt89).trans Sc.tups).trans ttF
        clear kpA kp89 hd9 hrx hF8 hC8 hF9 hC9 ttF Sc d7' hcs8 hE hd8 d3' hc
        generalize upd (upd H9 c (.tup [.str nmx, .ref pt, rx])) F (.lst (uvs ++ [.ref c])) = H10 at *
        refine ⟨_, rfl, .inl ⟨rfl, _, SqL.of hC10⟩, _, rfl, _, rfl, pt, _, rfl, .inr hptB, (by show 2 ≤ sizeLine; decide), fun c2 hc2 => ?_⟩
        have Sc2 := same_upd (o := .tup [.str nmx, .int ((((abc.take (1 + r5)).map V.str).length : Nat) : Int)]) hc2
        have hC11 := Sc2 _ _ hC10
        refine ⟨C, _, _, rfl, rfl, hC11, by omega, ?_⟩
        have ttC : Tups (upd H10 c2 (.tup [.str nmx, .int ((((abc.take (1 + r5)).map V.str).length : Nat) : Int)])) (upd (upd H10 c2 (.tup [.str nmx, .int ((((abc.take (1 + r5)).map V.str).length : Nat) : Int)])) C (.lst (cvs ++ [.ref c2]))) := Tups.upd hC11 trivial
        refine ⟨us ++ [⟨nmx, abc.take (1 + r5), ex⟩], uvs ++ [.ref c], cvs ++ [.ref c2], _, _, _, rfl, (kpB.trans (Kp.of_same Sc2)).upd (.inr hC0), (hd10.same Sc2).upd nCh nCd, (d3''.trans Sc2.tups).trans ttC, upd_same, ?_, by rw [upd_ne nCF.symm]; exact Sc2 _ _ hF10, ?_, by rw [List.length_append, d8]; rfl, ?_⟩
        · unfold callsOf
          rw [List.map_append, ← List.append_assoc]
          refine (CallsAt.tups ttC (CallsAt.tups Sc2.tups hcs10)).append (.cons ⟨c2, rfl, ?_⟩ .nil)
          refine SqT.tups ttC ?_
          show SqT K _ c2 [.str nmx, vint (abc.take (1 + r5)).length]
          rw [← List.length_map (f := V.str)]
          exact SqT.of upd_same
        · rw [List.map_append]
          exact ((d7''.same Sc2).tups ttC).snoc ((hfn.same Sc2).tups ttC)
        · refine ⟨by rw [List.length_append, List.length_singleton]; omega, fun j u hu => ?_⟩
          rcases Nat.lt_or_ge j us.length with hj | hj
          · rw [List.getElem?_append_left hj] at hu
            obtain ⟨a1, a2, a3⟩ := d9.each j u hu
            refine ⟨a1, a2, ?_⟩
            rw [List.take_append_of_le_length (by omega)]
            exact a3
          · have hj2 : j = us.length := by
              have := (List.getElem?_eq_some_iff.mp hu).1
              rw [List.length_append, List.length_singleton] at this
              omega
            subst hj2
            rw [List.getElem?_append_right (Nat.le_refl _), Nat.sub_self] at hu
            cases hu
            refine ⟨by rw [d8]; exact hnm, ⟨1 + r5, by omega, by omega, rfl⟩, ?_⟩
            rw [List.take_left']
            · exact hgx
            · rfl
      · rintro σ' H' ⟨us, uvs, cvs, x6, x7, x8, rfl, d1, d2, d3, d4, d5, d6, d7, d8, d9⟩
        have hui : us.length ≤ 2 := d9.le
        have hulen := Reps.length d7
        rw [List.length_map] at hulen
        have hcl : (callsOf lib ++ callsOf us).length ≤ 12 := by
          rw [List.length_append]; unfold callsOf; rw [List.length_map, List.length_map]; omega
        refine ⟨(by show 4 ≤ sizeLine; decide), fun p hp => ?_⟩
        have S1' := same_upd (o := .lst (xywv.map V.str)) hp
        refine ⟨_, rfl, _, rfl, p, _, rfl, SqL.of (show upd H' p (.lst (xywv.map V.str)) p = _ from upd_same), fun p3 hp3 => ?_⟩
        have ecut : cutV (xywv.map V.str) none (some ((m : Nat) : Int)) = (xywv.take m).map V.str := by rw [cutV_take, List.map_take]
        rw [ecut]
        have S3' := same_upd (o := .lst ((xywv.take m).map V.str)) hp3
        refine ⟨p3, _, rfl, SqL.of upd_same, fun pt H8 S8 hpt => ?_⟩
        have SS := (S1'.trans S3').trans S8
        have hd8 := d2.same SS
        have hC8 := SS _ _ d4
        have hF8 := SS _ _ d6
        have hcs8 := CallsAt.tups SS.tups d5
        have d78 := d7.same SS
        have kp8 := d1.trans (Kp.of_same SS)
        have d38 := d3.trans SS.tups
        clear d1 d2 d3 d4 d5 d6 d7 S1' S3' S8 SS hp hp3
        refine ⟨_, rfl, _, rfl, _, rfl, _, rfl, h, dl, pt, C, 3, xywv.take m, callsOf lib ++ callsOf us, cvs, rfl, by decide, hd8, hpt, hC8, hcs8, nCh, calls_le hlp (users_ps d9), by rw [List.length_take]; omega, hcl, fun H9 ex rx kp89 hd9 hrx hgx => ⟨(by show 3 ≤ sizeLine; decide), fun c hc => ?_⟩⟩
        have tt89 := hd8.tups kp89
        have Sc := same_upd (o := .tup [.str "main", .ref pt, rx]) hc
        have hfn : Rep K (upd H9 c (.tup [.str "main", .ref pt, rx])) (Fn.t ⟨"main", xywv.take m, ex⟩) (.ref c) :=
          Rep.l (SqT.of upd_same) (.cons .w (.cons (Rep.l ((hpt.tups tt89).same Sc) (Reps.words _)) (.cons (hrx.same Sc) .nil)))
        have hd10 := hd9.same Sc
        have hF10 := Sc _ _ (kp89.keep F _ (by simpa using nFh) hF8)
        have d710 := (d78.tups tt89).same Sc
        have kp10 := (kp8.trans kp89).trans (Kp.of_same Sc)
        have tt310 := (d38.trans tt89).trans Sc.tups
        clear kp8 kp89 hd9 hd8 hF8 hC8 hcs8 d78 d38 Sc tt89 hrx hpt hc
        generalize upd H9 c (.tup [.str "main", .ref pt, rx]) = H10 at *
        refine ⟨_, rfl, h, dl, 4, rfl, hd10, by decide, by decide, fun H11 r4 kp11 hd11 hr4 => ⟨rfl, _, rfl, ite_both (fun _ => ?_) (fun _ => ?_)⟩⟩
        all_goals
          have tt11 := hd10.tups kp11
          have hT11 := hT3.tups (tt310.trans tt11)
          have hxs11 := Reps.tups (tt310.trans tt11) hxs3
          have hF11 := kp11.keep F _ (by simpa using nFh) hF10
          have d711 := Reps.tups tt11 d710
          have hfn11 := hfn.tups tt11
          have kp011 := kp10.trans kp11
          refine ⟨_, rfl, (by show 1 ≤ sizeLine; decide), fun t1 ht1 => ?_⟩
          have T1 := same_upd (o := .tup [.ref c]) ht1
        · refine ⟨_, rfl, t1, a, _, _, rfl, rfl, SqT.of upd_same, hT11.same T1, by rw [hxl]; show 1 + lib.length ≤ sizeLine; omega, fun q1 H12 S12 hq1 => ?_⟩
          refine ⟨_, rfl, F, _, rfl, SqL.of (S12 _ _ (T1 _ _ hF11)), fun l H13 S13 hl => ?_⟩
          refine ⟨q1, l, _, _, rfl, rfl, hq1.same S13, hl, by rw [hulen, List.length_append, hxl]; show 1 + lib.length + us.length ≤ sizeLine; omega, fun q2 H14 S14 hq2 => ?_⟩
          have SA := ((T1.trans S12).trans S13).trans S14
          refine k H14 (⟨"main", xywv.take m, ex⟩ :: (lib ++ us)) _ (kp011.trans (Kp.of_same SA)) (hd11.same SA) ?_ ⟨lib, us, ex, hlm, d9, hgx, .inl rfl⟩
          refine Rep.l hq2 ?_
          rw [List.map_cons, List.map_append]
          exact .cons (hfn11.same SA) ((hxs11.same SA).append (d711.same SA))
        · refine ⟨_, rfl, F, _, rfl, SqL.of (T1 _ _ hF11), fun l H13 S13 hl => ?_⟩
          refine ⟨t1, l, _, _, rfl, rfl, SqT.same S13 (SqT.of upd_same), hl, by rw [hulen]; show 1 + us.length ≤ sizeLine; omega, fun q1 H12 S12 hq1 => ?_⟩
          refine ⟨_, rfl, q1, a, _, _, rfl, rfl, hq1, ((hT11.same T1).same S13).same S12, by rw [hxl, List.length_append, hulen]; show 1 + us.length + lib.length ≤ sizeLine; omega, fun q2 H14 S14 hq2 => ?_⟩
          have SA := ((T1.trans S13).trans S12).trans S14
          refine k H14 (⟨"main", xywv.take m, ex⟩ :: (us ++ lib)) _ (kp011.trans (Kp.of_same SA)) (hd11.same SA) ?_ ⟨lib, us, ex, hlm, d9, hgx, .inr rfl⟩
          refine Rep.l hq2 ?_
          rw [List.map_cons, List.map_append]
          exact .cons (hfn11.same SA) ((d711.same SA).append (hxs11.same SA))
end
end K46
/-! the law's do; equality of values. -/
namespace K46
open PySem PySem.Spec PyProof.Rows L2

mutual
def T.dat : T → PyData
  | .w x => .str x
  | .l ts => .tuple (datL ts)
def datL : List T → List PyData
  | [] => []
  | t :: ts => T.dat t :: datL ts
end
mutual
theorem dp_of {K : PySem.W.Frag} {H : Hp} : ∀ {t : T} {v : V}, Rep K H t v → Dp K H v t.dat
  | .w x, v, h => by rw [h.w_eq]; exact .str x
  | .l ts, v, h => by
    obtain ⟨a, vs, rfl, h1, h2⟩ := h.l_eq
    exact .tup h1 (dpl_of h2)
theorem dpl_of {K : PySem.W.Frag} {H : Hp} : ∀ {ts : List T} {vs : List V}, Reps K H ts vs → DpAll K H vs (datL ts)
  | [], vs, h => by rw [h.nil_eq]; exact .nil
  | t :: ts, vs, h => by
    obtain ⟨v, r, rfl, h1, h2⟩ := h.cons_eq
    exact .cons (dp_of h1) (dpl_of h2)
end
mutual
theorem eqv_dat : ∀ a b : T, PyData.eqv a.dat b.dat = decide (a = b)
  | .w x, .w y => by
    simp only [T.dat, PyData.eqv]
    rw [Bool.eq_iff_iff]
    simp
  | .w x, .l us => by simp [T.dat, PyData.eqv]
  | .l ts, .w y => by simp [T.dat, PyData.eqv]
  | .l ts, .l us => by
    simp only [T.dat, PyData.eqv]
    rw [eqvL_dat ts us, Bool.eq_iff_iff]
    simp
theorem eqvL_dat : ∀ a b : List T, PyData.eqvAll (datL a) (datL b) = decide (a = b)
  | [], [] => by simp [datL, PyData.eqvAll]
  | [], _ :: _ => by simp [datL, PyData.eqvAll]
  | _ :: _, [] => by simp [datL, PyData.eqvAll]
  | t :: ts, u :: us => by
    simp only [datL, PyData.eqvAll]
    rw [eqv_dat t u, eqvL_dat ts us, Bool.eq_iff_iff]
    simp
end
mutual
theorem dat_depth : ∀ t : T, t.dat.depth = t.depth
  | .w x => by simp [T.dat, PyData.depth, T.depth]
  | .l ts => by
    have := datL_depth ts
    simp only [T.dat, PyData.depth, T.depth]
    exact this
theorem datL_depth : ∀ ts : List T, PyData.depthAll (datL ts) + 1 = depthL ts
  | [] => by simp [datL, PyData.depthAll, depthL]
  | t :: ts => by
    have h1 := dat_depth t
    have h2 := datL_depth ts
    simp only [datL, PyData.depthAll, depthL]
    omega
end
theorem strOk_of {x : Str} (h : WordOk x) : PyData.canLay0 (.str x) = true := by
  simp only [PyData.canLay0]
  show (x.cps.all (· < 0x110000)) = true
  rw [Array.all_eq_true']
  intro c hc
  have := h.all c (Array.mem_toList_iff.mpr hc)
  simp only [isAl, isLet, isFig, Bool.or_eq_true, Bool.and_eq_true, decide_eq_true_eq] at this
  simp only [decide_eq_true_eq]
  omega
mutual
theorem dat_lay : ∀ t : T, t.Ok → t.dat.canLay0 = true
  | .w x, h => strOk_of h
  | .l ts, h => by
    simp only [T.dat, PyData.canLay0]
    exact datL_lay ts h
theorem datL_lay : ∀ ts : List T, OkL ts → PyData.canLayAll0 (datL ts) = true
  | [], _ => rfl
  | t :: ts, h => by
    simp only [datL, PyData.canLayAll0, Bool.and_eq_true]
    exact ⟨dat_lay t h.1, datL_lay ts h.2⟩
end
theorem shaped_of {t : T} (h : t.Ok) (d : t.depth ≤ 60) : SeqAt.shaped t.dat = true := by
  unfold SeqAt.shaped
  rw [dat_lay t h, dat_depth, Bool.true_and]
  exact decide_eq_true (by omega)
structure Nice (t : T) : Prop where
  ok : t.Ok
  dep : t.depth ≤ 60
theorem eq_rd {K : PySem.W.Frag} {H : Hp} {a b : T} {x y : V} {Q : VK} (hx : Rep K H a x) (hy : Rep K H b y) (na : Nice a) (nb : Nice b) (q : Q (.bl (decide (a = b))) H) : rEqD K x y H Q :=
  ⟨_, _, dp_of hx, dp_of hy, shaped_of na.ok na.dep, shaped_of nb.ok nb.dep, by rw [eqv_dat]; exact q⟩
theorem ne_rd {K : PySem.W.Frag} {H : Hp} {a b : T} {x y : V} {Q : VK} (hx : Rep K H a x) (hy : Rep K H b y) (na : Nice a) (nb : Nice b) (q : Q (.bl (!decide (a = b))) H) : rNeD K x y H Q :=
  ⟨_, _, dp_of hx, dp_of hy, shaped_of na.ok na.dep, shaped_of nb.ok nb.dep, by rw [eqv_dat]; exact q⟩
def spLDo (K : PySem.W.Frag) : Sp := fun vs H Q _ => ∃ (x : Str) (f : Addr) (us : List V) (ts : List T) (t : T) (ts' : List T), vs = [.str x, .ref f] ∧ H f = some (.lst us.reverse) ∧ Reps K H ts us ∧ doOp x ts = some (t :: ts') ∧ (∀ u ∈ ts, Nice u ∧ u.wide ≤ 10000000) ∧
  ∀ (H' : Hp) (r : V) (us' : List V), Kp [f] H H' → H' f = some (.lst us'.reverse) → Reps K H' ts' us' → Rep K H' t r → Q r H'
abbrev sLDo : Stmt := top 62
theorem sc_sLDo : FnScope ["_law_word", "_law_found", "_law_last", "_law_first"] ["_law_word", "_law_found"] (defScope sLDo) := ⟨rfl, rfl, rfl, by decide +kernel, rfl, by decide +kernel, by decide +kernel⟩
section
variable {P : Program} {w : World} {K : PySem.W.Frag} {mg : Str → Option Value} {base : Heap}
theorem ok_lDo {f : Addr} {fd : FuncData} (B : Bl mg) (D : Dfn K mg "_law_do" sLDo ["_law_word", "_law_found"] f fd) : FnOk P w K mg base CX0 1 f fd ["_law_word", "_law_found"] (spLDo K) := by
  refine D.F.ok sc_sLDo (fun vs H Q XE h => ?_) (fun cdv AA outer st H vs Q XE hr h => ?_)
  · obtain ⟨x, f, us, ts, t, ts', rfl, _⟩ := h
    rfl
  · obtain ⟨x, f, us, ts, t, ts', rfl, hf, hus0, hop, hn, k⟩ := h
    have nd := sc_sLDo.nd
    have hu64 := hr.units
    refine ⟨_,
      (pss_cons (ps_set (i := 2) nd rfl (.inl rfl) (pe_bm0 PySem.F.plainAttrs_list PySem.F.slot_list_pop PySem.F.type_list_pop mt_pop (pv 1)))
      (pss_cons (ps_if (pt_cmpR op_eq (pv 0) pe_str (nomark _))
      (pss_one (ps_ret (pe_ix ix_list (pe_lst (pa_cons pe_str (pa_cons (pe_tup pa_nil) pa_nil))) (pe_callTy call_int1 (by rfl) B.int PyProof.Rows.boot_int (pa_cons (pe_callB call_isTup (by rfl) B.isinstance PyProof.Rows.boot_isinstance (pa_cons (pv 2) (pa_cons (pe_bltn (v := .ty "tuple") (by rfl) B.tuple PyProof.Rows.boot_tuple rfl) pa_nil))) pa_nil)) (fun _ _ => rfl))))
      pss_nil)
      (pss_cons (ps_if (pt_cmpR op_eq (pv 0) pe_str (nomark _))
      (pss_cons (ps_if (PW.pt (pw_and (pt_val (pe_callB call_isTup (by rfl) B.isinstance PyProof.Rows.boot_isinstance (pa_cons (pv 2) (pa_cons (pe_bltn (v := .ty "tuple") (by rfl) B.tuple PyProof.Rows.boot_tuple rfl) pa_nil)))) (pw_and1 (pt_cmpR op_gt (pe_callB call_len_seq (by rfl) B.len PySem.boot_len (pa_cons (pv 2) pa_nil)) pe_int (nomark _)))))
      (pss_one (ps_ret (pe_ix ix_tup (pv 2) pe_int (fun _ _ => rfl))))
      pss_nil)
      (pss_one (ps_ret (pe_tup pa_nil))))
      pss_nil)
      (pss_cons (ps_if (pt_cmpR op_eq (pv 0) pe_str (nomark _))
      (pss_cons (ps_if (pt_val (pe_callB call_isTup (by rfl) B.isinstance PyProof.Rows.boot_isinstance (pa_cons (pv 2) (pa_cons (pe_bltn (v := .ty "tuple") (by rfl) B.tuple PyProof.Rows.boot_tuple rfl) pa_nil))))
      (pss_one (ps_ret (pe_slice sl_tupS (pv 2) (po_some pe_int) po_none)))
      pss_nil)
      (pss_one (ps_ret (pe_tup pa_nil))))
      pss_nil)
      (pss_cons (ps_set (i := 3) nd rfl (.inl rfl) (pe_bm0 PySem.F.plainAttrs_list PySem.F.slot_list_pop PySem.F.type_list_pop mt_pop (pv 1)))
      (pss_cons (ps_if (pt_cmpR op_eq (pv 0) pe_str (nomark _))
      (pss_one (ps_ret (pe_ix ix_list (pe_lst (pa_cons (pe_tup pa_nil) (pa_cons pe_str pa_nil))) (pe_callTy call_int1 (by rfl) B.int PyProof.Rows.boot_int (pa_cons (pe_cmpR (op_eqD hu64) (pv 3) (pv 2) (nomark _)) pa_nil)) (fun _ _ => rfl))))
      pss_nil)
      (pss_cons (ps_if (pt_val (pe_callB call_isTup (by rfl) B.isinstance PyProof.Rows.boot_isinstance (pa_cons (pv 2) (pa_cons (pe_bltn (v := .ty "tuple") (by rfl) B.tuple PyProof.Rows.boot_tuple rfl) pa_nil))))
      (pss_one (ps_ret (pe_op op_catS (pe_tup (pa_cons (pv 3) pa_nil)) (pv 2))))
      pss_nil)
      (pss_one (ps_ret (pe_tup (pa_cons (pv 3) pa_nil)))))))))))
      , ?_⟩
    have hs : sizeLine = 16777216 := rfl
    obtain ⟨a, tl, rfl, hcs⟩ := doOp_cases hop
    obtain ⟨va, us, rfl, hva0, husA⟩ := hus0.cons_eq
    clear hus0
    refine ⟨_, rfl, .inl ⟨rfl, _, SqL.of hf⟩, f, _, _, rfl, rfl, hf, rev_last _ _, ?_⟩
    rw [dropLast_rev]
    have tt : Tups H (upd H f (.lst us.reverse)) := Tups.upd hf trivial
    have kp1 : Kp [f] H (upd H f (.lst us.reverse)) := Kp.refl.upd (.inl (by simp))
    have hf1 : upd H f (.lst us.reverse) f = some (.lst us.reverse) := upd_same
    have hva := hva0.tups tt
    have hus := Reps.tups tt husA
    clear hva0 husA hop
    have hna := hn a List.mem_cons_self
    generalize upd H f (.lst us.reverse) = H1 at *
    rcases hcs with ⟨rfl, hq⟩ | ⟨rfl, hq⟩ | ⟨rfl, hq⟩ | ⟨b, g, rfl, hcs⟩
    · cases hq
      refine ⟨_, rfl, rfl, ?_⟩
      rw [decide_eq_true (show V.str sWord = V.str "word" from rfl)]
      refine ⟨_, rfl, iteT ⟨(by show 0 ≤ sizeLine; decide), fun e0 he0 => ⟨(by show 2 ≤ sizeLine; decide), fun L hL => ?_⟩⟩⟩
      have T1 := same_upd (o := .tup []) he0
      have T2 := same_upd (o := .lst [.str "yes", .ref e0]) hL
      have T12 := T1.trans T2
      have e0T : SqT K (upd (upd H1 e0 (.tup [])) L (.lst [.str "yes", .ref e0])) e0 [] := SqT.same T2 (SqT.of upd_same)
      have fin : ∀ (r : V), Rep K (upd (upd H1 e0 (.tup [])) L (.lst [.str "yes", .ref e0])) (ofB (isW a)) r → Q r (upd (upd H1 e0 (.tup [])) L (.lst [.str "yes", .ref e0])) := fun r hr =>
        k _ r us (kp1.trans (Kp.of_same T12)) (T12 _ _ hf1) (hus.same T12) hr
      cases a with
      | w y => exact ⟨_, rfl, .w y, va, rfl, hva.same T12, .inr ⟨_, rfl, L, _, _, _, rfl, rfl, SqL.of upd_same, at0, fin _ .w⟩⟩
      | l ts => exact ⟨_, rfl, .l ts, va, rfl, hva.same T12, .inr ⟨_, rfl, L, _, _, _, rfl, rfl, SqL.of upd_same, at1, fin _ (Rep.l e0T .nil)⟩⟩
    · cases hq
      refine ⟨_, rfl, rfl, ?_⟩
      rw [decide_eq_false (show ¬ V.str sHead = V.str "word" from fun q => ww (V.str.inj q))]
      refine ⟨_, rfl, iteF ⟨_, rfl, rfl, ?_⟩⟩
      rw [decide_eq_true (show V.str sHead = V.str "head" from rfl)]
      refine ⟨_, rfl, iteT ?_⟩
      have nilR : tTup tNil [some (.str sHead), some (.ref f), some va, none] H1 Q → True := fun _ => trivial
      have emp : ∀ p, H1 p = none → tHead a = nil → Q (.ref p) (upd H1 p (.tup [])) := fun p hp e => by
        have Tp := same_upd (o := .tup []) hp
        refine k _ _ us (kp1.trans (Kp.of_same Tp)) (Tp _ _ hf1) (hus.same Tp) ?_
        rw [e]
        exact Rep.l (SqT.of upd_same) .nil
      cases a with
      | w y => exact ⟨_, rfl, .w y, va, rfl, hva, _, rfl, iteF ⟨(by show 0 ≤ sizeLine; decide), fun p hp => emp p hp rfl⟩⟩
      | l ts =>
        obtain ⟨aa, as, rfl, haT, has⟩ := hva.l_eq
        refine ⟨_, rfl, .l ts, _, rfl, hva, _, rfl, iteT ⟨_, rfl, aa, _, rfl, .inr haT, _, _, rfl, rfl, _, rfl, ?_⟩⟩
        cases ts with
        | nil =>
          have := has.nil_eq
          subst this
          rw [decide_eq_false (show ¬ ((0 : Int) < ((([] : List V).length : Nat) : Int)) by decide)]
          exact iteF ⟨(by show 0 ≤ sizeLine; decide), fun p hp => emp p hp rfl⟩
        | cons t0 ts =>
          obtain ⟨r0, rs, rfl, h0, has⟩ := has.cons_eq
          rw [decide_eq_true (show (0 : Int) < (((r0 :: rs).length : Nat) : Int) by simp)]
          exact iteT ⟨_, rfl, aa, _, _, _, rfl, rfl, haT, at0, k _ _ us kp1 hf1 hus h0⟩
    · cases hq
      refine ⟨_, rfl, rfl, ?_⟩
      rw [decide_eq_false (show ¬ V.str sTail = V.str "word" from fun q => tw (V.str.inj q))]
      refine ⟨_, rfl, iteF ⟨_, rfl, rfl, ?_⟩⟩
      rw [decide_eq_false (show ¬ V.str sTail = V.str "head" from fun q => th (V.str.inj q))]
      refine ⟨_, rfl, iteF ⟨_, rfl, rfl, ?_⟩⟩
      rw [decide_eq_true (show V.str sTail = V.str "tail" from rfl)]
      refine ⟨_, rfl, iteT ?_⟩
      cases a with
      | w y =>
        refine ⟨_, rfl, .w y, va, rfl, hva, _, rfl, iteF ⟨(by show 0 ≤ sizeLine; decide), fun p hp => ?_⟩⟩
        have Tp := same_upd (o := .tup []) hp
        exact k _ _ us (kp1.trans (Kp.of_same Tp)) (Tp _ _ hf1) (hus.same Tp) (Rep.l (SqT.of upd_same) .nil)
      | l ts =>
        obtain ⟨aa, as, rfl, haT, has⟩ := hva.l_eq
        refine ⟨_, rfl, .l ts, _, rfl, hva, _, rfl, iteT ⟨_, rfl, _, rfl, aa, _, rfl, haT, fun p H2 S2 hpT => ?_⟩⟩
        have ecut : cutV as (some 1) none = as.drop 1 := cutV_drop _ 1
        rw [ecut] at hpT
        refine k _ _ us (kp1.trans (Kp.of_same S2)) (S2 _ _ hf1) (hus.same S2) (Rep.l hpT ?_)
        have := (has.same S2).drop 1
        rw [List.drop_one] at this
        exact this
    · obtain ⟨vb, us, rfl, hvbA, husB⟩ := hus.cons_eq
      clear hus
      have hx1 : ¬ x = sHead ∧ ¬ x = sTail ∧ ¬ x = sWord := by
        rcases hcs with ⟨rfl, _⟩ | ⟨rfl, _⟩
        · exact ⟨mh, mt, mw⟩
        · exact ⟨jh, jt, jw⟩
      have hnb := hn b (List.mem_cons_of_mem _ List.mem_cons_self)
      refine ⟨_, rfl, rfl, ?_⟩
      rw [decide_eq_false (show ¬ V.str x = V.str "word" from fun q => hx1.2.2 (V.str.inj q))]
      refine ⟨_, rfl, iteF ⟨_, rfl, rfl, ?_⟩⟩
      rw [decide_eq_false (show ¬ V.str x = V.str "head" from fun q => hx1.1 (V.str.inj q))]
      refine ⟨_, rfl, iteF ⟨_, rfl, rfl, ?_⟩⟩
      rw [decide_eq_false (show ¬ V.str x = V.str "tail" from fun q => hx1.2.1 (V.str.inj q))]
      refine ⟨_, rfl, iteF ?_⟩
      refine ⟨_, rfl, .inl ⟨rfl, _, SqL.of hf1⟩, f, _, _, rfl, rfl, hf1, rev_last _ _, ?_⟩
      rw [dropLast_rev]
      have tt2 : Tups H1 (upd H1 f (.lst us.reverse)) := Tups.upd hf1 trivial
      have kp2 : Kp [f] H (upd H1 f (.lst us.reverse)) := kp1.upd (.inl (by simp))
      have hf2 : upd H1 f (.lst us.reverse) f = some (.lst us.reverse) := upd_same
      have hva2 := hva.tups tt2
      have hvb := hvbA.tups tt2
      have hus := Reps.tups tt2 husB
      clear hva hvbA husB
      have hva := hva2
      clear hva2
      clear kp1 hf1 tt tt2
      generalize upd H1 f (.lst us.reverse) = H2 at *
      rcases hcs with ⟨rfl, hq⟩ | ⟨rfl, hq⟩
      · cases hq
        refine ⟨_, rfl, rfl, ?_⟩
        rw [decide_eq_true (show V.str sSame = V.str "same" from rfl)]
        refine ⟨_, rfl, iteT ⟨(by show 0 ≤ sizeLine; decide), fun e0 he0 => ⟨(by show 2 ≤ sizeLine; decide), fun L hL => ?_⟩⟩⟩
        have T1 := same_upd (o := .tup []) he0
        have T2 := same_upd (o := .lst [.ref e0, .str "yes"]) hL
        have T12 := T1.trans T2
        have e0T : SqT K (upd (upd H2 e0 (.tup [])) L (.lst [.ref e0, .str "yes"])) e0 [] := SqT.same T2 (SqT.of upd_same)
        refine ⟨_, rfl, _, rfl, eq_rd (hvb.same T12) (hva.same T12) hnb.1 hna.1 (.inr ⟨_, rfl, ?_⟩)⟩
        have fin : ∀ (r : V), Rep K (upd (upd H2 e0 (.tup [])) L (.lst [.ref e0, .str "yes"])) (ofB (decide (b = a))) r → Q r (upd (upd H2 e0 (.tup [])) L (.lst [.ref e0, .str "yes"])) := fun r hr =>
          k _ r us (kp2.trans (Kp.of_same T12)) (T12 _ _ hf2) (hus.same T12) hr
        by_cases e : b = a
        · rw [decide_eq_true e] at fin ⊢
          exact ⟨L, _, _, _, rfl, rfl, SqL.of upd_same, at1, fin _ .w⟩
        · rw [decide_eq_false e] at fin ⊢
          exact ⟨L, _, _, _, rfl, rfl, SqL.of upd_same, at0, fin _ (Rep.l e0T .nil)⟩
      · cases hq
        refine ⟨_, rfl, rfl, ?_⟩
        rw [decide_eq_false (show ¬ V.str sJoin = V.str "same" from fun q => js (V.str.inj q))]
        refine ⟨_, rfl, iteF ?_⟩
        cases a with
        | w y =>
          refine ⟨_, rfl, .w y, va, rfl, hva, _, rfl, iteF ⟨_, rfl, (by show 1 ≤ sizeLine; decide), fun p hp => ?_⟩⟩
          have Tp := same_upd (o := .tup [vb]) hp
          exact k _ _ us (kp2.trans (Kp.of_same Tp)) (Tp _ _ hf2) (hus.same Tp) (Rep.l (SqT.of upd_same) (.cons (hvb.same Tp) .nil))
        | l ts =>
          obtain ⟨aa, as, rfl, haT, has⟩ := hva.l_eq
          have hal := has.length
          have hwl := hna.2
          have hil := items_length (.l ts)
          simp only [tItems] at hil
          refine ⟨_, rfl, .l ts, _, rfl, hva, _, rfl, iteT ⟨_, rfl, (by show 1 ≤ sizeLine; decide), fun p hp => ?_⟩⟩
          have Tp := same_upd (o := .tup [vb]) hp
          refine ⟨_, rfl, p, aa, _, _, rfl, rfl, SqT.of upd_same, haT.same Tp, by rw [hal]; show 1 + ts.length ≤ sizeLine; omega, fun q H3 S3 hq => ?_⟩
          have TS := Tp.trans S3
          exact k _ _ us (kp2.trans (Kp.of_same TS)) (TS _ _ hf2) (hus.same TS) (Rep.l hq (.cons (hvb.same TS) (has.same TS)))
end
end K46
/-! the law's small and spaced. -/
namespace K46
open PySem PySem.Spec PyProof.Rows L2

def StkOk (w B : Nat) : List T → Prop
  | [] => True
  | u :: R => R.length + 1 + w * u.depth ≤ B ∧ u.wide ≤ w ∧ StkOk w B R
theorem stk_push {w B : Nat} {R : List T} (h : StkOk w B R) : ∀ {us : List T} {d n : Nat}, us.length ≤ n → (∀ u ∈ us, u.depth ≤ d ∧ u.wide ≤ w) → R.length + n + w * d ≤ B → StkOk w B (us ++ R)
  | [], _, _, _, _, _ => h
  | u :: us, d, n, hl, hu, hb => by
    rw [List.length_cons] at hl
    have h1 := hu u List.mem_cons_self
    have h2 : w * u.depth ≤ w * d := Nat.mul_le_mul_left _ h1.1
    refine ⟨?_, h1.2, stk_push h (n := n) (d := d) (by omega) (fun v hv => hu v (List.mem_cons_of_mem _ hv)) hb⟩
    show (us ++ R).length + 1 + w * u.depth ≤ B
    rw [List.length_append]
    omega
def szL (ts : List T) : Nat := (ts.map T.size).sum
theorem szL_append (a b : List T) : szL (a ++ b) = szL a + szL b := by simp [szL]
theorem szL_reverse (a : List T) : szL a.reverse = szL a := by simp [szL]
theorem sizeL_szL : ∀ ts : List T, sizeL ts = 1 + szL ts
  | [] => by simp [sizeL, szL]
  | t :: ts => by
    have := sizeL_szL ts
    simp only [sizeL, szL, List.map_cons, List.sum_cons] at this ⊢
    omega
def spSmall (K : PySem.W.Frag) : Sp := fun vs H Q _ => ∃ (v : V) (t : T), vs = [v] ∧ Rep K H t v ∧ t.depth ≤ 60 ∧ t.wide ≤ 100000 ∧ ∀ (H' : Hp) (b : Bool), Same H H' → (b = true → t.size ≤ 20000) → Q (.bl b) H'
abbrev sSmall : Stmt := top 63
theorem sc_sSmall : FnScope ["_law_value_here", "_law_waiting", "_law_turn", "_law_one", "_law_item"] ["_law_value_here"] (defScope sSmall) := ⟨rfl, rfl, rfl, by decide +kernel, rfl, by decide +kernel, by decide +kernel⟩
section
variable {P : Program} {w : World} {K : PySem.W.Frag} {mg : Str → Option Value} {base : Heap}
theorem ok_small {f : Addr} {fd : FuncData} (B : Bl mg) (D : Dfn K mg "_law_small" sSmall ["_law_value_here"] f fd) : FnOk P w K mg base CX0 1 f fd ["_law_value_here"] (spSmall K) := by
  refine D.F.ok sc_sSmall (fun vs H Q XE h => ?_) (fun cdv AA outer st H vs Q XE hr h => ?_)
  · obtain ⟨v, t, rfl, _⟩ := h
    rfl
  · obtain ⟨v, t, rfl, hv, hd, hw, k⟩ := h
    have nd := sc_sSmall.nd
    refine ⟨_,
      (pss_cons (ps_set (i := 1) nd rfl (.inl rfl) (pe_lst (pa_cons (pv 0) pa_nil)))
      (pss_cons (ps_for PassesOwn.never rfl (pi_range1 (by rfl) B.range (pa_cons pe_int pa_nil)) (pg_name (i := 2) nd rfl (.inl rfl))
      (pss_cons (ps_if (pt_cmpR op_eq (pe_callB call_len_seq (by rfl) B.len PySem.boot_len (pa_cons (pv 1) pa_nil)) pe_int (nomark _))
      (pss_one (ps_ret pe_bl))
      pss_nil)
      (pss_cons (ps_set (i := 3) nd rfl (.inl rfl) (pe_bm0 PySem.F.plainAttrs_list PySem.F.slot_list_pop PySem.F.type_list_pop mt_pop (pv 1)))
      (pss_one (ps_if (pt_val (pe_callB call_isTup (by rfl) B.isinstance PyProof.Rows.boot_isinstance (pa_cons (pv 3) (pa_cons (pe_bltn (v := .ty "tuple") (by rfl) B.tuple PyProof.Rows.boot_tuple rfl) pa_nil))))
      (pss_one (ps_for PassesOwn.never rfl (pi_tup (pv 3)) (pg_name (i := 4) nd rfl (.inl rfl))
      (pss_one (ps_expr (pe_bm PySem.F.plainAttrs_list PySem.F.slot_list_append PySem.F.type_list_append mt_append (pv 1) (pa_cons (pv 4) pa_nil))))))
      pss_nil)))))
      (pss_one (ps_ret pe_bl))))
      , ?_⟩
    have hs : sizeLine = 16777216 := rfl
    refine ⟨_, rfl, (by show 1 ≤ sizeLine; decide), fun p hp => ⟨_, rfl, by decide, by decide, ?_⟩⟩
    have S1 := same_upd (o := .lst [v]) hp
    refine for_range (lo := 0) (n := 20000) (fun i σ' H' => ∃ (W : List T) (us : List V) (x2 x3 x4 : Option V), σ' = [some v, some (.ref p), x2, x3, x4] ∧ Same H H' ∧ H' p = some (.lst us.reverse) ∧ Reps K H' W us ∧ StkOk 100000 6000001 W ∧ i ≤ 20000 ∧ szL W + i = t.size) ?_ ?_ ?_
    · exact ⟨[t], [v], _, _, _, rfl, S1, upd_same, .cons (hv.same S1) .nil, ⟨by have := Nat.mul_le_mul_left 100000 hd; simp only [List.length_nil]; omega, hw, trivial⟩, by omega, by simp [szL]⟩
    · rintro i σ' H' hi ⟨W, us, x2, x3, x4, rfl, S, c1, c2, c3, c4, c5⟩
      have hul := c2.length
      refine ⟨_, rfl, p, _, rfl, .inl (SqL.of c1), rfl, ?_⟩
      cases W with
      | nil =>
        have := c2.nil_eq
        subst this
        rw [decide_eq_true (show V.int ((([] : List V).reverse.length : Nat) : Int) = V.int 0 from rfl)]
        refine ⟨_, rfl, iteT ?_⟩
        refine k H' true S fun _ => ?_
        simp only [szL, List.map_nil, List.sum_nil] at c5
        omega
      | cons a W =>
        obtain ⟨va, us, rfl, hva, hW⟩ := c2.cons_eq
        clear c2
        rw [decide_eq_false (show ¬ V.int ((((va :: us).reverse).length : Nat) : Int) = V.int 0 from fun q => by have := V.int.inj q; rw [List.length_reverse, List.length_cons] at this; omega)]
        refine ⟨_, rfl, iteF ?_⟩
        refine ⟨_, rfl, .inl ⟨rfl, _, SqL.of c1⟩, p, _, _, rfl, rfl, c1, rev_last _ _, ?_⟩
        rw [dropLast_rev]
        have tt : Tups H' (upd H' p (.lst us.reverse)) := Tups.upd c1 trivial
        have S2 : Same H (upd H' p (.lst us.reverse)) := S.upd hp
        have hp2 : upd H' p (.lst us.reverse) p = some (.lst us.reverse) := upd_same
        have hva2 := hva.tups tt
        have hW2 := Reps.tups tt hW
        clear hva hW S c1 tt
        generalize upd H' p (.lst us.reverse) = H2 at *
        obtain ⟨q1, q2, q3⟩ := c3
        simp only [szL, List.map_cons, List.sum_cons] at c5
        have hWl := hW2.length
        cases a with
        | w y => exact ⟨_, rfl, .w y, va, rfl, hva2, _, rfl, iteF ⟨W, us, _, _, _, rfl, S2, hp2, hW2, q3, by omega, by simp only [T.size] at c5; simp only [szL]; omega⟩⟩
        | l ts =>
          obtain ⟨aa, as, rfl, haT, has⟩ := hva2.l_eq
          have hal := has.length
          have hil := items_length (.l ts)
          simp only [tItems] at hil
          refine ⟨_, rfl, .l ts, _, rfl, hva2, _, rfl, iteT ⟨_, rfl, aa, rfl, ⟨as, haT⟩, ?_⟩⟩
          refine for_tup (xs := as) (fun j σ' H3 => ∃ x4 : Option V, σ' = [some v, some (.ref p), some (.int (0 + (i : Int))), some (.ref aa), x4] ∧ Kp [p] H2 H3 ∧ H3 p = some (.lst (us.reverse ++ as.take j))) ⟨_, rfl, Kp.refl, by rw [List.take_zero, List.append_nil]; exact hp2⟩ ?_ ?_ ?_
          · rintro j σ' H3 _ ⟨x4, rfl, d1, _⟩
            exact haT.tups (d1.tups (fun b hb => by rw [List.mem_singleton.mp hb, hp2]; exact ⟨(fun _ q => by cases q), (fun _ _ q => by cases q)⟩))
          · rintro j x σ' H3 hx ⟨x4, rfl, d1, d2⟩
            have hj := (List.getElem?_eq_some_iff.mp hx).1
            refine ⟨_, rfl, .inl ⟨rfl, _, SqL.of d2⟩, _, rfl, p, _, _, rfl, rfl, d2, ?_, ?_⟩
            · rw [List.length_append, List.length_reverse, List.length_take]
              have : (T.l ts).depth ≥ 1 := depthL_pos ts
              omega
            · exact ⟨_, rfl, d1.upd (.inl (by simp)), by rw [upd_same, List.append_assoc, List.take_succ, hx]; rfl⟩
          · rintro σ' H3 ⟨x4, rfl, d1, d2⟩
            rw [List.take_length] at d2
            have noT : NoTup [p] H2 := fun b hb => by rw [List.mem_singleton.mp hb, hp2]; exact ⟨(fun _ q => by cases q), (fun _ _ q => by cases q)⟩
            have tt3 := d1.tups noT
            have S3 : Same H H3 := fun z u hz => d1.keep z u (fun q => by rw [List.mem_singleton.mp q, hp] at hz; cases hz) (S2 z u hz)
            refine ⟨ts.reverse ++ W, as.reverse ++ us, _, _, _, rfl, S3, by rw [d2]; simp, (reps_reverse (has.tups tt3)).append (Reps.tups tt3 hW2), ?_, by omega, ?_⟩
            · have hdp : (T.l ts).depth ≥ 1 := depthL_pos ts
              refine stk_push q3 (d := (T.l ts).depth - 1) (n := 100000) (by rw [List.length_reverse]; omega) (fun u hu => ?_) ?_
              · have hm := List.mem_reverse.mp hu
                have h1 := depth_mem hm
                have h2 := wide_mem hm
                have h3 : wideL ts ≤ (T.l ts).wide := Nat.le_max_right _ _
                have h4 : (T.l ts).depth = depthL ts := rfl
                omega
              · have : 100000 * ((T.l ts).depth - 1) + 100000 = 100000 * (T.l ts).depth := by
                  rw [← Nat.mul_succ]; congr 1; omega
                omega
            · rw [szL_append, szL_reverse]
              have h1 := sizeL_szL ts
              have h2 : (T.l ts).size = sizeL ts := rfl
              simp only [szL] at h1 ⊢
              omega
    · rintro σ' H' ⟨W, us, x2, x3, x4, rfl, S, _⟩
      exact k H' false S (fun h => nomatch h)
end
end K46
/-! the law's spaced. -/
namespace K46
open PySem PySem.Spec PyProof.Rows L2

theorem for_its {z : Str} {g : TG} {tb : TS} {D : L2.Ends} {σ : L2.St} {H : Hp} (Pv : Nat → L2.St → Hp → Prop) (h0 : Pv 0 σ H)
    (hs : ∀ i c σ H, z.cps[i]? = some c → Pv i σ H → g (.str ⟨#[c]⟩) σ H fun σ2 H2 => tb { D with nx := Pv (i + 1), ct := Pv (i + 1), bk := D.nx } σ2 H2) (hd : ∀ σ H, Pv z.cps.size σ H → D.nx σ H) :
    ∃ W : Nat → Nat → L2.St → Hp → Prop, (∃ m, W 0 m σ H) ∧ ∀ i m σ H, W i m σ H →
      ((Its z).stop i H ∧ D.nx σ H) ∨ ((Its z).go i H ∧ ∃ N : L2.St → Hp → Prop, (∀ σ' H', N σ' H' → ∃ m', m' < m ∧ W (i + 1) m' σ' H') ∧ ∀ x H', (Its z).yld i H x H' → g x σ H' fun σ2 H2 => tb { D with nx := N, ct := N, bk := D.nx } σ2 H2) := by
  refine ⟨fun i m σ H => m = z.cps.size - i ∧ i ≤ z.cps.size ∧ Pv i σ H, ⟨z.cps.size, by simp, Nat.zero_le _, h0⟩, ?_⟩
  rintro i m σ H ⟨rfl, hi, p⟩
  by_cases hlt : i < z.cps.size
  · refine .inr ⟨hlt, Pv (i + 1), fun σ' H' p' => ⟨z.cps.size - (i + 1), by omega, rfl, hlt, p'⟩, fun x H' y => ?_⟩
    obtain ⟨e, c, hc, rfl⟩ := y
    subst e
    exact hs i c σ _ hc p
  · have e : i = z.cps.size := by omega
    subst e
    exact .inl ⟨Nat.le_refl _, hd σ H p⟩
def Chk (c : Nat) (u : List Nat) : Prop := (c = 32 ∧ u ≠ [] ∧ ∀ x ∈ u, isWs x = true) ∨ ((c = 40 ∨ c = 41) ∧ ∃ w, (∀ x ∈ w, isWs x = true) ∧ u = w ++ [c]) ∨ (c ≠ 32 ∧ c ≠ 40 ∧ c ≠ 41 ∧ u = [c])
theorem spc_of {tl : List Nat} (ht : ∀ x ∈ tl, isWs x = true) : ∀ {cs : List Nat} {us : List (List Nat)}, Paired Chk cs us → Spc cs (us.flatten ++ tl)
  | _, _, .nil => .nil ht
  | _, _,   .cons h t => by
    have ih := spc_of ht t
    rw [List.flatten_cons, List.append_assoc]
    rcases h with ⟨rfl, h1, h2⟩ | ⟨h1, w, h2, rfl⟩ | ⟨h1, h2, h3, rfl⟩
    · exact .sp h1 h2 ih
    · rw [List.append_assoc]
      exact .pa h1 h2 ih
    · exact .no h1 h2 h3 ih
theorem paired_snoc {α β : Type} {R : α → β → Prop} : ∀ {as : List α} {bs : List β} {a : α} {b : β}, Paired R as bs → R a b → Paired R (as ++ [a]) (bs ++ [b])
  | _, _, _, _, .nil, k => .cons k .nil
  | _, _, _, _, .cons h t, k => .cons h (paired_snoc t k)
theorem ws_rep {c : Nat} (h : isWs c = true) (n : Nat) : ∀ x ∈ List.replicate n c, isWs x = true := fun x hx => by rw [(List.mem_replicate.mp hx).2]; exact h
def spSpaced : Sp := fun vs H Q _ => ∃ (h dl : Addr) (z : Str), vs = [.ref h, .str z] ∧ HandAt H h dl ∧ z.length ≤ 1000000 ∧ ∀ (H' : Hp) (s : Str), Kp [h] H H' → HandAt H' h dl → Spc z.cps.toList s.cps.toList → s.length ≤ 5 * z.length + 5 → Q (.str s) H'
abbrev sSpaced : Stmt := top 65
theorem sc_sSpaced : FnScope ["_law_hand", "_law_text", "_law_made", "_law_sign"] ["_law_hand", "_law_text"] (defScope sSpaced) := ⟨rfl, rfl, rfl, by decide +kernel, rfl, by decide +kernel, by decide +kernel⟩
section
variable {P : Program} {w : World} {K : PySem.W.Frag} {mg : Str → Option Value} {base : Heap}
theorem ok_spaced {f fT : Addr} {fd fdT : FuncData} (B : Bl mg) (D : Dfn K mg "_law_spaced" sSpaced ["_law_hand", "_law_text"] f fd) (DT : Dfn K mg "_law_take" sTake ["_law_hand", "_law_many"] fT fdT) (GT : FnOk P w K mg base CX0 1 fT fdT ["_law_hand", "_law_many"] spTake) :
    FnOk P w K mg base CX0 2 f fd ["_law_hand", "_law_text"] spSpaced := by
  refine D.F.ok sc_sSpaced (fun vs H Q XE h => ?_) (fun cdv AA outer st H vs Q XE hr h => ?_)
  · obtain ⟨h, dl, z, rfl, _⟩ := h
    rfl
  · obtain ⟨h, dl, z, rfl, hh, hz, k⟩ := h
    have nd := sc_sSpaced.nd
    refine ⟨_,
      (pss_cons (ps_set (i := 2) nd rfl (.inl rfl) pe_str)
      (pss_cons (ps_for PassesOwn.never rfl (pi_str (pv 1)) (pg_name (i := 3) nd rfl (.inl rfl))
      (pss_one (ps_if (pt_cmpR op_eq (pv 3) pe_str (nomark _))
      (pss_one (ps_set (i := 2) nd rfl (.inl rfl) (pe_op op_add_str (pe_op op_add_str (pv 2) (pe_op op_mulSign pe_str (pe_op op_add pe_int (pe_call GT hr (by rfl) DT.g DT.F.kp DT.b .nil pass0 (pa_cons (pv 0) (pa_cons pe_int pa_nil)))))) (pe_op op_mulSign pe_str (pe_call GT hr (by rfl) DT.g DT.F.kp DT.b .nil pass0 (pa_cons (pv 0) (pa_cons pe_int pa_nil)))))))
      (pss_one (ps_if (PW.pt (pw_or (pt_cmpR op_eq (pv 3) pe_str (nomark _)) (pw_or1 (pt_cmpR op_eq (pv 3) pe_str (nomark _)))))
      (pss_one (ps_set (i := 2) nd rfl (.inl rfl) (pe_op op_add_str (pe_op op_add_str (pv 2) (pe_op op_mulSign pe_str (pe_call GT hr (by rfl) DT.g DT.F.kp DT.b .nil pass0 (pa_cons (pv 0) (pa_cons pe_int pa_nil))))) (pv 3))))
      (pss_one (ps_set (i := 2) nd rfl (.inl rfl) (pe_op op_add_str (pv 2) (pv 3)))))))))
      (pss_one (ps_ret (pe_op op_add_str (pv 2) (pe_op op_mulSign pe_str (pe_call GT hr (by rfl) DT.g DT.F.kp DT.b .nil pass0 (pa_cons (pv 0) (pa_cons pe_int pa_nil)))))))))
      , ?_⟩
    have hs : sizeLine = 16777216 := rfl
    have sp1 : V.str " " = V.str ⟨#[32]⟩ := congrArg V.str one_sp
    have nl1 : V.str "\n" = V.str ⟨#[10]⟩ := congrArg V.str one_nl
    have repl : ∀ (n c : Nat), (⟨(List.replicate n c).toArray⟩ : Str).length = n := fun n c => by show (List.replicate n c).toArray.size = n; simp
    have lapp : ∀ (a b : Str), (a ++ b).length = a.length + b.length := fun a b => by show (a.cps ++ b.cps).size = _; exact Array.size_append
    have tapp : ∀ (a b : Str), (a ++ b).cps.toList = a.cps.toList ++ b.cps.toList := fun a b => Array.toList_append ..
    refine ⟨_, rfl, z, rfl, ?_⟩
    refine for_its (fun i σ' H' => ∃ (s : Str) (x3 : Option V) (us : List (List Nat)), σ' = [some (.ref h), some (.str z), some (.str s), x3] ∧ Kp [h] H H' ∧ HandAt H' h dl ∧ Paired Chk (z.cps.toList.take i) us ∧ s.cps.toList = us.flatten ∧ s.length ≤ 5 * i) ?_ ?_ ?_
    · exact ⟨"", _, [], rfl, Kp.refl, hh, .nil, by decide +kernel, by decide +kernel⟩
    · rintro i c σ' H' hc ⟨s, x3, us, rfl, c1, c2, c3, c4, c5⟩
      have hi : i < z.length := (Array.getElem?_eq_some_iff.mp hc).1
      have htk : z.cps.toList.take (i + 1) = z.cps.toList.take i ++ [c] := by rw [List.take_succ, cps_get.mp hc]; rfl
      have one : (⟨#[c]⟩ : Str).length = 1 := rfl
      refine ⟨_, rfl, rfl, ?_⟩
      by_cases e32 : c = 32
      · subst e32
        rw [decide_eq_true (show V.str ⟨#[32]⟩ = V.str " " from sp1.symm)]
        refine ⟨_, rfl, iteT ⟨_, rfl, _, rfl, h, dl, 2, rfl, c2, by decide, by decide, fun H1 r1 kp1 hd1 hr1 => ?_⟩⟩
        refine ⟨_, _, rfl, rfl, 32, 1 + r1, sp1, (by show V.int ((1 : Int) + (r1 : Int)) = _; congr 1), by omega, s, _, rfl, rfl, by rw [repl]; omega, ?_⟩
        refine ⟨_, rfl, h, dl, 2, rfl, hd1, by decide, by decide, fun H2 r2 kp2 hd2 hr2 => ⟨10, r2, nl1, rfl, by omega, _, _, rfl, rfl, by rw [lapp, repl, repl]; omega, ?_⟩⟩
        refine ⟨_, _, us ++ [List.replicate (1 + r1) 32 ++ List.replicate r2 10], rfl, (c1.trans kp1).trans kp2, hd2, ?_, ?_, ?_⟩
        · rw [htk]
          refine paired_snoc c3 (.inl ⟨rfl, ?_, fun x hx => ?_⟩)
          · intro q
            have := congrArg List.length q
            rw [List.length_append, List.length_replicate] at this
            simp at this
          · rcases List.mem_append.mp hx with hx | hx
            · exact ws_rep (by decide) _ x hx
            · exact ws_rep (by decide) _ x hx
        · rw [tapp, tapp, c4]
          simp
        · rw [lapp, lapp, repl, repl]; omega
      · rw [decide_eq_false (show ¬ V.str ⟨#[c]⟩ = V.str " " from fun q => e32 (by rw [sp1] at q; have := V.str.inj q; simpa using this))]
        refine ⟨_, rfl, iteF ?_⟩
        have paren : (c = 40 ∨ c = 41) → ∀ (r1 : Nat) (H1 : Hp), Kp [h] H' H1 → HandAt H1 h dl → r1 < 2 → ∃ (s' : Str) (y3 : Option V) (us' : List (List Nat)), [some (.ref h), some (.str z), some (V.str ((s ++ ⟨(List.replicate r1 32).toArray⟩) ++ ⟨#[c]⟩)), some (V.str ⟨#[c]⟩)] = [some (.ref h), some (.str z), some (.str s'), y3] ∧ Kp [h] H H1 ∧ HandAt H1 h dl ∧ Paired Chk (z.cps.toList.take (i + 1)) us' ∧ s'.cps.toList = us'.flatten ∧ s'.length ≤ 5 * (i + 1) := by
          intro hc4 r1 H1 kp1 hd1 hr1
          refine ⟨_, _, us ++ [List.replicate r1 32 ++ [c]], rfl, c1.trans kp1, hd1, ?_, ?_, ?_⟩
          · rw [htk]
            exact paired_snoc c3 (.inr (.inl ⟨hc4, _, ws_rep (by decide) r1, rfl⟩))
          · rw [tapp, tapp, c4]
            simp
          · rw [lapp, lapp, repl, one]; omega
        have op1 : V.str "(" = V.str ⟨#[40]⟩ := congrArg V.str one_op
        have cl1 : V.str ")" = V.str ⟨#[41]⟩ := congrArg V.str one_cl
        refine ⟨_, rfl, rfl, ?_⟩
        by_cases e40 : c = 40
        · rw [decide_eq_true (show V.str ⟨#[c]⟩ = V.str "(" by rw [op1, e40])]
          refine ⟨_, rfl, iteT ⟨_, rfl, _, rfl, h, dl, 2, rfl, c2, by decide, by decide, fun H1 r1 kp1 hd1 hr1 => ⟨32, r1, sp1, rfl, by omega, s, _, rfl, rfl, by rw [repl]; omega, _, rfl, _, _, rfl, rfl, by rw [lapp, repl, one]; omega, ?_⟩⟩⟩
          exact paren (.inl e40) r1 H1 kp1 hd1 hr1
        · rw [decide_eq_false (show ¬ V.str ⟨#[c]⟩ = V.str "(" from fun q => e40 (by rw [op1] at q; have := V.str.inj q; simpa using this))]
          refine ⟨_, rfl, iteF ⟨_, rfl, rfl, ?_⟩⟩
          by_cases e41 : c = 41
          · rw [decide_eq_true (show V.str ⟨#[c]⟩ = V.str ")" by rw [cl1, e41])]
            refine ⟨_, rfl, iteT ⟨_, rfl, _, rfl, h, dl, 2, rfl, c2, by decide, by decide, fun H1 r1 kp1 hd1 hr1 => ⟨32, r1, sp1, rfl, by omega, s, _, rfl, rfl, by rw [repl]; omega, _, rfl, _, _, rfl, rfl, by rw [lapp, repl, one]; omega, ?_⟩⟩⟩
            exact paren (.inr e41) r1 H1 kp1 hd1 hr1
          · rw [decide_eq_false (show ¬ V.str ⟨#[c]⟩ = V.str ")" from fun q => e41 (by rw [cl1] at q; have := V.str.inj q; simpa using this))]
            refine ⟨_, rfl, iteF ⟨_, rfl, _, rfl, _, _, rfl, rfl, by rw [one]; omega, ?_⟩⟩
            refine ⟨_, _, us ++ [[c]], rfl, c1, c2, ?_, ?_, ?_⟩
            · rw [htk]
              exact paired_snoc c3 (.inr (.inr ⟨e32, e40, e41, rfl⟩))
            · rw [tapp, c4]
              simp
            · rw [lapp, one]; omega
    · rintro σ' H' ⟨s, x3, us, rfl, c1, c2, c3, c4, c5⟩
      have hlen : z.cps.toList.length = z.cps.size := Array.length_toList
      have hzl : z.length = z.cps.size := rfl
      rw [← hlen, List.take_length] at c3
      refine ⟨_, rfl, _, rfl, h, dl, 3, rfl, c2, by decide, by decide, fun H1 r1 kp1 hd1 hr1 => ⟨32, r1, sp1, rfl, by omega, s, _, rfl, rfl, by rw [repl]; omega, ?_⟩⟩
      refine k H1 _ (c1.trans kp1) hd1 ?_ ?_
      · rw [tapp, c4]
        have := spc_of (ws_rep (c := 32) (by decide) r1) c3
        simpa using this
      · rw [lapp, repl]; omega
end
end K46
/-! Drawn programs: good, slim, typed. -/
namespace K46
open PySem

theorem GenE.up {ps : List Str} {cs : Cs} {d : Nat} {e : E} (h : GenE ps cs d e) : GenE ps cs (d + 1) e := by
  induction h with
  | v h => exact .v h
  | q h => exact .q h
  | ite _ _ _ a b c => exact .ite a b c
  | same _ _ a b => exact .same a b
  | join _ _ a b => exact .join a b
  | word _ a => exact .word a
  | head _ a => exact .head a
  | tail _ a => exact .tail a
  | call h _ ih => exact .call h ih
theorem GenE.mono {ps : List Str} {cs : Cs} {d d' : Nat} {e : E} (h : GenE ps cs d e) (k : d ≤ d') : GenE ps cs d' e := by
  induction k with
  | refl => exact h
  | step _ ih => exact ih.up
theorem GenE.calls {ps : List Str} {cs cs' : Cs} (k : ∀ c ∈ cs, c ∈ cs') {d : Nat} {e : E} (h : GenE ps cs d e) : GenE ps cs' d e := by
  induction h with
  | v h => exact .v h
  | q h => exact .q h
  | ite _ _ _ a b c => exact .ite a b c
  | same _ _ a b => exact .same a b
  | join _ _ a b => exact .join a b
  | word _ a => exact .word a
  | head _ a => exact .head a
  | tail _ a => exact .tail a
  | call h _ ih => exact .call (k _ h) ih

def allN : List Str := ["main", "has", "within", "put", "turn", "later", "q", "zz"]
def allP : List (List Str) := [["w", "v"], ["v", "l"], ["l"], abc.take 1, abc.take 2, abc.take 3, xywv.take 0, xywv.take 1, xywv.take 2, xywv.take 3]
def okWord (x : Str) : Bool := decide (x.cps.toList.length ≤ 12) && (match x.cps.toList with | [] => false | c :: _ => isLet c) && x.cps.toList.all isAl
theorem okWord_of {x : Str} (h : okWord x = true) : WordOk x := wordOk_of h
theorem allN_b : allN.all (fun x => okWord x && decide (special x = none) && (match x.cps.toList with | [] => false | c :: _ => decide (c ≠ 102)) && decide (x.length ≤ 1000)) = true := by decide +kernel
theorem allP_b : allP.all (fun ps => decide ps.Nodup && decide (ps.length ≤ 3) && ps.all fun x => okWord x && decide (special x = none)) = true := by decide +kernel
structure NameOk (x : Str) : Prop where
  ok : WordOk x
  sp : special x = none
  c : ∃ c cs, x.cps.toList = c :: cs ∧ c ≠ 102
  len : x.length ≤ 1000
theorem allN_ok : ∀ x ∈ allN, NameOk x := by
  intro x hx
  have h := List.all_eq_true.mp allN_b x hx
  simp only [Bool.and_eq_true, decide_eq_true_eq] at h
  obtain ⟨⟨⟨h1, h2⟩, h3⟩, h4⟩ := h
  refine ⟨okWord_of h1, h2, ?_, h4⟩
  split at h3
  · cases h3
  · next c r e => exact ⟨c, r, e, by simpa using h3⟩
structure PsOk (ps : List Str) : Prop where
  nd : ps.Nodup
  le : ps.length ≤ 3
  ok : ∀ x ∈ ps, WordOk x
  sp : ∀ x ∈ ps, special x = none
theorem allP_ok : ∀ ps ∈ allP, PsOk ps := by
  intro ps hp
  have h := List.all_eq_true.mp allP_b ps hp
  simp only [Bool.and_eq_true, decide_eq_true_eq, List.all_eq_true] at h
  exact ⟨h.1.1, h.1.2, fun x hx => okWord_of (h.2 x hx).1, fun x hx => (h.2 x hx).2⟩
structure FnG (cs : Cs) (f : Fn) : Prop where
  name : f.name ∈ allN
  ps : f.ps ∈ allP
  body : GenE f.ps cs 4 f.body
theorem two {P : E → Prop} {a b : E} (ha : P a) (hb : P b) : ∀ e ∈ [a, b], P e := by
  intro e he
  rcases List.mem_cons.mp he with rfl | he
  · exact ha
  · rw [List.mem_singleton.mp he]; exact hb
theorem one1 {P : E → Prop} {a : E} (ha : P a) : ∀ e ∈ [a], P e := by
  intro e he
  rw [List.mem_singleton.mp he]; exact ha
theorem val_yes : ValOk 2 yes := words_ok 2 "yes" (by decide +kernel)
theorem val_nil : ValOk 2 nil := valOk_list (e := 1) (ts := []) (Nat.zero_le _) (fun _ h => nomatch h)
theorem fnHas_g : FnG (callsOf [fnHas, fnWithin]) fnHas :=
  ⟨by decide +kernel, by decide +kernel, .ite (.same (.v (by decide +kernel)) (.v (by decide +kernel))) (.q val_yes) (.call (g := "within") (es := [.v "w", .v "v"]) (.tail _ (.head _)) (two (.v (by decide +kernel)) (.v (by decide +kernel))))⟩
theorem fnWithin_g : FnG (callsOf [fnHas, fnWithin]) fnWithin :=
  ⟨by decide +kernel, by decide +kernel, .ite (.v (by decide +kernel)) (.ite (.call (g := "has") (es := [.v "w", .app sHead [.v "v"]]) (.head _) (two (.v (by decide +kernel)) (.head (.v (by decide +kernel))))) (.q val_yes)
    (.call (g := "within") (es := [.v "w", .app sTail [.v "v"]]) (.tail _ (.head _)) (two (.v (by decide +kernel)) (.tail (.v (by decide +kernel)))))) (.q val_nil)⟩
theorem fnPut_g {cs : Cs} (h : (("put" : Str), 2) ∈ cs) : FnG cs fnPut :=
  ⟨by decide +kernel, by decide +kernel, .ite (.v (by decide +kernel)) (.join (.head (.v (by decide +kernel))) (.call (g := "put") (es := [.v "v", .app sTail [.v "l"]]) h (two (.v (by decide +kernel)) (.tail (.v (by decide +kernel)))))) (.join (.v (by decide +kernel)) (.q val_nil))⟩
theorem fnTurn_g : FnG (callsOf [fnPut, fnTurn]) fnTurn :=
  ⟨by decide +kernel, by decide +kernel, .ite (.v (by decide +kernel)) (.call (g := "put") (es := [.app sHead [.v "l"], .app "turn" [.app sTail [.v "l"]]]) (.head _) (two (.head (.v (by decide +kernel))) (.call (g := "turn") (es := [.app sTail [.v "l"]]) (.tail _ (.head _)) (one1 (.tail (.v (by decide +kernel)))))))
    (.q val_nil)⟩
theorem lib_g : ∀ lib ∈ libs, ∀ f ∈ lib, FnG (callsOf lib) f := by
  intro lib h f hf
  simp only [libs, List.mem_cons, List.not_mem_nil, or_false] at h
  rcases h with rfl | rfl | rfl
  · simp only [List.mem_cons, List.not_mem_nil, or_false] at hf
    rcases hf with rfl | rfl
    · exact fnHas_g
    · exact fnWithin_g
  · simp only [List.mem_cons, List.not_mem_nil, or_false] at hf
    rcases hf with rfl | rfl
    · exact fnPut_g (.head _)
    · exact fnTurn_g
  · simp only [List.mem_cons, List.not_mem_nil, or_false] at hf
    subst hf
    exact fnPut_g (.head _)
theorem FnG.calls {cs cs' : Cs} (k : ∀ c ∈ cs, c ∈ cs') {f : Fn} (h : FnG cs f) : FnG cs' f := ⟨h.name, h.ps, h.body.calls k⟩
theorem users_names {lib us : Prog} (h : UsersOk lib us) : us.map (·.name) = names3.take us.length := by
  apply List.ext_getElem?
  intro i
  rw [List.getElem?_map]
  cases e : us[i]? with
  | none =>
    have := List.getElem?_eq_none_iff.mp e
    rw [List.getElem?_take]
    rw [if_neg (by omega)]
    rfl
  | some u =>
    have hi := (List.getElem?_eq_some_iff.mp e).1
    rw [List.getElem?_take, if_pos hi, (h.each i u e).1]
    rfl
theorem callsOf_append (a b : Prog) : callsOf (a ++ b) = callsOf a ++ callsOf b := List.map_append
theorem callsOf_take {us : Prog} {i : Nat} : ∀ c ∈ callsOf (us.take i), c ∈ callsOf us := by
  intro c hc
  obtain ⟨f, hf, rfl⟩ := List.mem_map.mp hc
  exact List.mem_map.mpr ⟨f, List.mem_of_mem_take hf, rfl⟩
theorem user_g {lib us : Prog} (h : UsersOk lib us) {i : Nat} {u : Fn} (hu : us[i]? = some u) : FnG (callsOf lib ++ callsOf (us.take i)) u := by
  obtain ⟨h1, ⟨n, h2, h3, h4⟩, h5⟩ := h.each i u hu
  refine ⟨?_, ?_, h5.mono (by omega)⟩
  · have := List.mem_of_getElem? h1
    simp only [names3, List.mem_cons, List.not_mem_nil, or_false] at this
    simp only [allN, List.mem_cons, List.not_mem_nil, or_false]
    rcases this with e | e | e <;> rw [e] <;> simp
  · rw [h4]
    have : n = 1 ∨ n = 2 ∨ n = 3 := by omega
    rcases this with rfl | rfl | rfl <;> simp [allP]
theorem names_nd : ∀ lib ∈ libs, ∀ k ≤ 2, (("main" : Str) :: (lib.map (·.name) ++ names3.take k)).Nodup ∧ (("main" : Str) :: (names3.take k ++ lib.map (·.name))).Nodup := by decide +kernel
theorem GenP.facts {m : Nat} {p : Prog} (hm : m ≤ 3) (h : GenP m p) : (∃ g r, p = g :: r ∧ g.ps.length = m) ∧ p.length ≤ 5 ∧ (p.map (·.name)).Nodup ∧ ∀ f ∈ p, FnG (callsOf p) f := by
  obtain ⟨lib, us, body, hl, hu, hb, hp⟩ := h.is
  obtain ⟨hll, _⟩ := libs_ok lib hl
  have hmp : (xywv.take m).length = m := by rw [List.length_take]; show min m 4 = m; omega
  have hmg : ∀ cs : Cs, (∀ c ∈ callsOf lib ++ callsOf us, c ∈ cs) → FnG cs ⟨"main", xywv.take m, body⟩ := fun cs k => by
    refine ⟨show ("main" : Str) ∈ allN by decide +kernel, ?_, (hb.mono (by omega)).calls k⟩
    have : m = 0 ∨ m = 1 ∨ m = 2 ∨ m = 3 := by omega
    rcases this with rfl | rfl | rfl | rfl <;> simp [allP]
  have hug : ∀ u ∈ us, FnG (callsOf lib ++ callsOf us) u := fun u hu' => by
    obtain ⟨i, hi⟩ := List.getElem?_of_mem hu'
    refine (user_g hu hi).calls fun c hc => ?_
    rcases List.mem_append.mp hc with hc | hc
    · exact List.mem_append_left _ hc
    · exact List.mem_append_right _ (callsOf_take c hc)
  have hlg : ∀ f ∈ lib, FnG (callsOf lib ++ callsOf us) f := fun f hf => (lib_g lib hl f hf).calls fun c hc => List.mem_append_left _ hc
  have hn := names_nd lib hl us.length hu.le
  have hun := users_names hu
  have hul := hu.le
  rcases hp with rfl | rfl
  · have hc : ∀ c ∈ callsOf lib ++ callsOf us, c ∈ callsOf (⟨"main", xywv.take m, body⟩ :: (lib ++ us)) := fun c hc => by
      refine List.mem_cons_of_mem _ ?_
      rw [List.map_append]
      exact hc
    refine ⟨⟨_, _, rfl, hmp⟩, by rw [List.length_cons, List.length_append]; omega, ?_, fun f hf => ?_⟩
    · rw [List.map_cons, List.map_append, hun]
      exact hn.1
    · rcases List.mem_cons.mp hf with rfl | hf
      · exact hmg _ hc
      · rcases List.mem_append.mp hf with hf | hf
        · exact (hlg f hf).calls hc
        · exact (hug f hf).calls hc
  · have hc : ∀ c ∈ callsOf lib ++ callsOf us, c ∈ callsOf (⟨"main", xywv.take m, body⟩ :: (us ++ lib)) := fun c hc => by
      refine List.mem_cons_of_mem _ ?_
      rw [List.map_append]
      rcases List.mem_append.mp hc with hc | hc
      · exact List.mem_append_right _ hc
      · exact List.mem_append_left _ hc
    refine ⟨⟨_, _, rfl, hmp⟩, by rw [List.length_cons, List.length_append]; omega, ?_, fun f hf => ?_⟩
    · rw [List.map_cons, List.map_append, hun]
      exact hn.2
    · rcases List.mem_cons.mp hf with rfl | hf
      · exact hmg _ hc
      · rcases List.mem_append.mp hf with hf | hf
        · exact (hug f hf).calls hc
        · exact (hlg f hf).calls hc

/-! ### the texts of drawn expressions -/
def esz : Nat → Nat
  | 0 => 15
  | n + 1 => 2 + 3 * esz n
theorem esz_ge : ∀ n, 15 ≤ esz n
  | 0 => Nat.le_refl _
  | n + 1 => by have := esz_ge n; show 15 ≤ 2 + 3 * esz n; omega
theorem sizeL_le {b : Nat} : ∀ {ts : List T}, (∀ t ∈ ts, t.size ≤ b) → sizeL ts ≤ 1 + ts.length * b
  | [], _ => by simp [sizeL]
  | t :: ts, h => by
    have h1 := h t List.mem_cons_self
    have h2 := sizeL_le (b := b) (ts := ts) fun u hu => h u (List.mem_cons_of_mem _ hu)
    rw [sizeL, List.length_cons, Nat.add_mul]
    omega
structure TxtE (n : Nat) (e : E) : Prop where
  ok : e.t.Ok
  wide : e.t.wide ≤ 4
  size : e.t.size ≤ esz n
  dep : e.t.depth ≤ n + 3
theorem txt_app {n : Nat} {x : Str} {es : List E} (hx : WordOk x) (hl : es.length ≤ 3) (h : ∀ e ∈ es, TxtE n e) : TxtE (n + 1) (.app x es) := by
  have hm : ∀ t ∈ es.map E.t, ∃ e ∈ es, t = e.t := fun t ht => by obtain ⟨e, he, rfl⟩ := List.mem_map.mp ht; exact ⟨e, he, rfl⟩
  refine ⟨?_, ?_, ?_, ?_⟩ <;> rw [E.t_app]
  · refine ⟨hx, OkL_iff.mpr fun t ht => ?_⟩
    obtain ⟨e, he, rfl⟩ := hm t ht
    exact (h e he).ok
  · show max (List.length (T.w x :: es.map E.t)) (wideL _) ≤ 4
    rw [List.length_cons, List.length_map]
    refine Nat.max_le.mpr ⟨by omega, wideL_le fun t ht => ?_⟩
    rcases List.mem_cons.mp ht with rfl | ht
    · exact Nat.zero_le _
    · obtain ⟨e, he, rfl⟩ := hm t ht
      exact (h e he).wide
  · show 1 + sizeL (es.map E.t) ≤ 2 + 3 * esz n
    have h1 := sizeL_le (b := esz n) (ts := es.map E.t) fun t ht => by obtain ⟨e, he, rfl⟩ := hm t ht; exact (h e he).size
    rw [List.length_map] at h1
    have h2 : es.length * esz n ≤ 3 * esz n := Nat.mul_le_mul_right _ hl
    omega
  · show depthL _ ≤ n + 1 + 3
    refine depthL_le (by omega) fun t ht => ?_
    rcases List.mem_cons.mp ht with rfl | ht
    · show 0 + 1 ≤ _; omega
    · obtain ⟨e, he, rfl⟩ := hm t ht
      have := (h e he).dep
      omega
theorem wi : WordOk sIf ∧ WordOk sSame ∧ WordOk sWord ∧ WordOk sHead ∧ WordOk sTail ∧ WordOk sJoin ∧ WordOk sQuote :=
  ⟨okWord_of (by decide +kernel), okWord_of (by decide +kernel), okWord_of (by decide +kernel), okWord_of (by decide +kernel), okWord_of (by decide +kernel), okWord_of (by decide +kernel), okWord_of (by decide +kernel)⟩
theorem txt_gen {ps : List Str} {cs : Cs} {n : Nat} {e : E} (hp : ∀ x ∈ ps, WordOk x) (hc : ∀ c ∈ cs, WordOk c.1 ∧ c.2 ≤ 3) (h : GenE ps cs n e) : TxtE n e := by
  obtain ⟨w1, w2, w3, w4, w5, w6, w7⟩ := wi
  induction h with
  | @v d x h => exact ⟨hp _ h, Nat.zero_le _, by show 1 ≤ esz d; have := esz_ge d; omega, Nat.zero_le _⟩
  | @q d t h =>
    have e : (E.q t).t = .l [.w sQuote, t] := rfl
    refine ⟨?_, ?_, ?_, ?_⟩ <;> rw [e]
    · exact ⟨w7, h.ok, trivial⟩
    · have := h.wid
      simp only [T.wide, wideL, List.length_cons, List.length_nil]
      omega
    · have h1 := h.size
      have h2 := esz_ge d
      have h3 : vsz 2 = 13 := rfl
      simp only [T.size, sizeL]
      omega
    · have := h.dep
      simp only [T.depth, depthL]
      omega
  | ite _ _ _ a b c => exact txt_app w1 (Nat.le_refl _) (by intro e he; simp only [List.mem_cons, List.not_mem_nil, or_false] at he; rcases he with rfl | rfl | rfl <;> assumption)
  | same _ _ a b => exact txt_app w2 (show 2 ≤ 3 by decide) (two a b)
  | join _ _ a b => exact txt_app w6 (show 2 ≤ 3 by decide) (two a b)
  | word _ a => exact txt_app w3 (show 1 ≤ 3 by decide) (one1 a)
  | head _ a => exact txt_app w4 (show 1 ≤ 3 by decide) (one1 a)
  | tail _ a => exact txt_app w5 (show 1 ≤ 3 by decide) (one1 a)
  | call h _ ih => exact txt_app (hc _ h).1 (hc _ h).2 ih
theorem counts_sp {p : Prog} {x : Str} {k : Nat} (h : special x = some k) : counts p x = some k := by unfold counts; rw [h]
theorem counts_fn {p : Prog} {x : Str} (h : special x = none) : counts p x = (look p x).map (·.ps.length) := by unfold counts; rw [h]
theorem sps : special sIf = some 3 ∧ special sSame = some 2 ∧ special sWord = some 1 ∧ special sHead = some 1 ∧ special sTail = some 1 ∧ special sJoin = some 2 ∧ special sQuote = some 1 := by decide +kernel
theorem not_quote : ¬ sIf = sQuote ∧ ¬ sSame = sQuote ∧ ¬ sWord = sQuote ∧ ¬ sHead = sQuote ∧ ¬ sTail = sQuote ∧ ¬ sJoin = sQuote := by decide +kernel
theorem good_gen {p : Prog} {ps : List Str} {cs : Cs} {n : Nat} {e : E} (hc : ∀ c ∈ cs, special c.1 = none ∧ counts p c.1 = some c.2) (h : GenE ps cs n e) : GoodE (counts p) ps e := by
  obtain ⟨w1, w2, w3, w4, w5, w6, w7⟩ := sps
  obtain ⟨n1, n2, n3, n4, n5, n6⟩ := not_quote
  induction h with
  | v h => exact .v h
  | q h => exact .q
  | ite _ _ _ a b c => exact .app n1 (counts_sp w1) (by intro e he; simp only [List.mem_cons, List.not_mem_nil, or_false] at he; rcases he with rfl | rfl | rfl <;> assumption)
  | same _ _ a b => exact .app n2 (counts_sp w2) (two a b)
  | join _ _ a b => exact .app n6 (counts_sp w6) (two a b)
  | word _ a => exact .app n3 (counts_sp w3) (one1 a)
  | head _ a => exact .app n4 (counts_sp w4) (one1 a)
  | tail _ a => exact .app n5 (counts_sp w5) (one1 a)
  | call h _ ih => exact .app (none_not_quote (hc _ h).1) (hc _ h).2 ih
/-- a drawn program, by its functions -/
structure GenF (p : Prog) : Prop where
  len : p.length ≤ 5
  ne : p ≠ []
  nd : (p.map (·.name)).Nodup
  fn : ∀ f ∈ p, FnG (callsOf p) f
theorem GenP.genF {m : Nat} {p : Prog} (hm : m ≤ 3) (h : GenP m p) : GenF p := by
  obtain ⟨⟨g, r, rfl, _⟩, h2, h3, h4⟩ := h.facts hm
  exact ⟨h2, by simp, h3, h4⟩
theorem GenF.cs {p : Prog} (h : GenF p) : ∀ c ∈ callsOf p, (WordOk c.1 ∧ c.2 ≤ 3) ∧ special c.1 = none ∧ counts p c.1 = some c.2 := by
  intro c hc
  obtain ⟨f, hf, rfl⟩ := List.mem_map.mp hc
  have h1 := allN_ok _ (h.fn f hf).name
  have h2 := allP_ok _ (h.fn f hf).ps
  refine ⟨⟨h1.ok, h2.le⟩, h1.sp, ?_⟩
  rw [counts_fn h1.sp, look_eq h.nd hf]
  rfl
theorem GenF.txt {p : Prog} (h : GenF p) {f : Fn} (hf : f ∈ p) : TxtE 4 f.body :=
  txt_gen (allP_ok _ (h.fn f hf).ps).ok (fun c hc => (h.cs c hc).1) (h.fn f hf).body
theorem GenF.good {p : Prog} (h : GenF p) : Good p where
  ne := h.ne
  le := by have := h.len; omega
  nd := h.nd
  fit := fun f hf => .inl (allN_ok _ (h.fn f hf).name).c
  sp := fun f hf => (allN_ok _ (h.fn f hf).name).sp
  ps := fun f hf => by have := allP_ok _ (h.fn f hf).ps; exact ⟨this.nd, by have := this.le; omega, this.sp⟩
  body := fun f hf => good_gen (fun c hc => (h.cs c hc).2) (h.fn f hf).body
  nl := fun f hf => (allN_ok _ (h.fn f hf).name).len
  size := fun f hf => by have := (h.txt hf).size; have : esz 4 = 1295 := rfl; omega
theorem GenF.slim {p : Prog} (h : GenF p) : Slim p where
  nd := h.nd
  wide := fun f hf => by have := (h.txt hf).wide; omega
  ps := fun f hf => (allP_ok _ (h.fn f hf).ps).nd
  le := fun f hf => by have := (allP_ok _ (h.fn f hf).ps).le; omega
end K46
/-! Drawn programs: how deep their values are. -/
namespace K46
open PySem

theorem sizeL_words : ∀ ps : List Str, sizeL (ps.map T.w) = 1 + ps.length
  | [] => rfl
  | x :: ps => by
    have := sizeL_words ps
    rw [List.map_cons, sizeL, this, List.length_cons]
    simp only [T.size]
    omega
theorem depthL_words : ∀ ps : List Str, depthL (ps.map T.w) = 1
  | [] => rfl
  | x :: ps => by
    rw [List.map_cons, depthL, depthL_words ps]
    rfl
theorem okL_words {ps : List Str} (h : ∀ x ∈ ps, WordOk x) : OkL (ps.map T.w) := OkL_iff.mpr fun t ht => by
  obtain ⟨x, hx, rfl⟩ := List.mem_map.mp ht
  exact h x hx
theorem fn_size (f : Fn) : f.t.size = 3 + f.ps.length + f.body.t.size := by
  unfold Fn.t
  simp only [T.size, sizeL, sizeL_words]
  omega
theorem fn_ok {f : Fn} (h1 : WordOk f.name) (h2 : ∀ x ∈ f.ps, WordOk x) (h3 : f.body.t.Ok) : f.t.Ok := ⟨h1, okL_words h2, h3, trivial⟩
theorem fn_depth {f : Fn} {d : Nat} (h : f.body.t.depth ≤ d) : f.t.depth ≤ d + 2 := by
  unfold Fn.t
  simp only [T.depth, depthL, depthL_words]
  omega
theorem prog_ok {p : Prog} (h : ∀ f ∈ p, f.t.Ok) : (progT p).Ok := OkL_iff.mpr fun t ht => by
  obtain ⟨f, hf, rfl⟩ := List.mem_map.mp ht
  exact h f hf
theorem prog_depth {p : Prog} {d : Nat} (h : ∀ f ∈ p, f.t.depth ≤ d) : (progT p).depth ≤ d + 1 := depthL_le (by omega) fun t ht => by
  obtain ⟨f, hf, rfl⟩ := List.mem_map.mp ht
  have := h f hf
  omega
theorem prog_size {p : Prog} {b : Nat} (h : ∀ f ∈ p, f.t.size ≤ b) : (progT p).size ≤ 1 + p.length * b := by
  have := sizeL_le (b := b) (ts := p.map Fn.t) fun t ht => by
    obtain ⟨f, hf, rfl⟩ := List.mem_map.mp ht
    exact h f hf
  rw [List.length_map] at this
  exact this
structure TxtPr (p : Prog) : Prop where
  ok : (progT p).Ok
  dep : (progT p).depth ≤ 10
  size : (progT p).size ≤ 6600
theorem GenF.txtPr {p : Prog} (h : GenF p) : TxtPr p := by
  have e4 : esz 4 = 1295 := rfl
  refine ⟨prog_ok fun f hf => fn_ok (allN_ok _ (h.fn f hf).name).ok (allP_ok _ (h.fn f hf).ps).ok (h.txt hf).ok, prog_depth (d := 9) fun f hf => fn_depth (d := 7) (h.txt hf).dep, ?_⟩
  have h1 := prog_size (p := p) (b := 1301) fun f hf => by
    have h1 := fn_size f
    have h2 := (allP_ok _ (h.fn f hf).ps).le
    have h3 := (h.txt hf).size
    omega
  have h2 : p.length * 1301 ≤ 5 * 1301 := Nat.mul_le_mul_right _ h.len
  omega
mutual
theorem txt_len : ∀ t : T, t.Ok → t.txt.length + 1 ≤ 13 * t.size
  | .w x, h => by
    have := (show WordOk x from h).le
    simp only [T.txt, T.size]
    omega
  | .l ts, h => by
    have := txtL_len ts h
    simp only [T.txt, T.size, List.length_cons, List.length_append, List.length_nil]
    omega
theorem txtL_len : ∀ ts : List T, OkL ts → (txtL ts).length + 10 ≤ 13 * sizeL ts
  | [], _ => by simp [txtL, sizeL]
  | t :: ts, h => by
    have h1 := txt_len t h.1
    have h2 := txtR_len ts h.2
    simp only [txtL, sizeL, List.length_append]
    omega
theorem txtR_len : ∀ ts : List T, OkL ts → (txtR ts).length + 10 ≤ 13 * sizeL ts
  | [], _ => by simp [txtR, sizeL]
  | t :: ts, h => by
    have h1 := txt_len t h.1
    have h2 := txtR_len ts h.2
    simp only [txtR, sizeL, List.length_append, List.length_cons]
    omega
end

/-! ### types -/
inductive Gp (lib us : Prog) : Str → List Nat → Nat → Prop
  | put {a b d : Nat} : fnPut ∈ lib → a + 1 ≤ d → b ≤ d → 2 ≤ d → Gp lib us "put" [a, b] d
  | turn {b d : Nat} : fnTurn ∈ lib → b ≤ d → 2 ≤ d → Gp lib us "turn" [b] d
  | has {a b d : Nat} : fnHas ∈ lib → 1 ≤ d → Gp lib us "has" [a, b] d
  | within {a b d : Nat} : fnWithin ∈ lib → 1 ≤ d → Gp lib us "within" [a, b] d
  | user {i M d : Nat} {u : Fn} {ds : List Nat} : us[i]? = some u → ds.length = u.ps.length → (∀ e ∈ ds, e ≤ M) → 2 ≤ M → M + 2 ^ (i + 1) ≤ d → Gp lib us u.name ds d
theorem tys_rep {B : Nat} {G : Str → List Nat → Nat → Prop} {C : Gm} {Y : Nat} : ∀ {es : List E}, (∀ e ∈ es, Ty B G C e Y) → Tys B G C es (List.replicate es.length Y)
  | [], _ => .nil
  | e :: es, h => .cons (h e List.mem_cons_self) (tys_rep fun e he => h e (List.mem_cons_of_mem _ he))
/-- what the functions of a library give where all parts are at most so deep -/
theorem lib_call {lib us : Prog} (hl : lib ∈ libs) {f : Fn} (hf : f ∈ lib) {Y Z : Nat} (h1 : Y + 1 ≤ Z) (h2 : 2 ≤ Z) : Gp lib us f.name (List.replicate f.ps.length Y) Z := by
  simp only [libs, List.mem_cons, List.not_mem_nil, or_false] at hl
  rcases hl with rfl | rfl | rfl
  · simp only [List.mem_cons, List.not_mem_nil, or_false] at hf
    rcases hf with rfl | rfl
    · exact .has (.head _) (by omega)
    · exact .within (.tail _ (.head _)) (by omega)
  · simp only [List.mem_cons, List.not_mem_nil, or_false] at hf
    rcases hf with rfl | rfl
    · exact .put (.head _) h1 (by omega) h2
    · exact .turn (.tail _ (.head _)) (by omega) h2
  · simp only [List.mem_cons, List.not_mem_nil, or_false] at hf
    subst hf
    exact .put (.head _) h1 (by omega) h2
theorem ty_gen {lib us : Prog} (hl : lib ∈ libs) (hu : UsersOk lib us) {ps : List Str} {C : Gm} {M i : Nat} (hC : ∀ x ∈ ps, ∃ d, C.lookup x = some d ∧ d ≤ M) (hM : 2 ≤ M) {n : Nat} {e : E}
    (h : GenE ps (callsOf lib ++ callsOf (us.take i)) n e) : M + 2 ^ i * n ≤ 60 → Ty 60 (Gp lib us) C e (M + 2 ^ i * n) := by
  have hp : 1 ≤ 2 ^ i := Nat.one_le_two_pow
  have hstep : ∀ n, 2 ^ i * (n + 1) = 2 ^ i * n + 2 ^ i := fun n => Nat.mul_succ ..
  induction h with
  | v h =>
    obtain ⟨d, h1, h2⟩ := hC _ h
    exact fun hb => .v h1 (by omega) hb
  | q h => exact fun hb => .q (by have := h.dep; omega) (by have := h.wid; omega) h.ok hb
  | @ite d _ _ _ _ _ _ a b c => intro hb; have := hstep d; exact .ite (a (by omega)) (b (by omega)) (c (by omega)) (by omega) (by omega) hb
  | @same d _ _ _ _ a b => intro hb; have := hstep d; exact .same (a (by omega)) (b (by omega)) (by omega) hb
  | @join d _ _ _ _ a b => intro hb; have := hstep d; exact .join (a (by omega)) (b (by omega)) (by omega) (by omega) hb
  | @word d _ _ a => intro hb; have := hstep d; exact .word (a (by omega)) (by omega) hb
  | @head d _ _ a => intro hb; have := hstep d; exact .head (a (by omega)) (by omega) (by omega) hb
  | @tail d _ _ a => intro hb; have := hstep d; exact .tail (a (by omega)) (by omega) (by omega) hb
  | @call d g es h _ ih =>
    intro hb
    have hd := hstep d
    have hts := tys_rep fun e he => ih e he (by omega)
    rcases List.mem_append.mp h with h | h
    · obtain ⟨f, hf, e⟩ := List.mem_map.mp h
      simp only [Prod.mk.injEq] at e
      have hg := lib_call (us := us) hl hf (Y := M + 2 ^ i * d) (Z := M + 2 ^ i * (d + 1)) (by omega) (by omega)
      rw [e.1, e.2] at hg
      have hsp : special g = none := by rw [← e.1]; exact (allN_ok _ (lib_g lib hl f hf).name).sp
      exact .call hsp hg (Nat.le_refl _) hb hts
    · obtain ⟨f, hf, e⟩ := List.mem_map.mp h
      simp only [Prod.mk.injEq] at e
      obtain ⟨j, hj⟩ := List.getElem?_of_mem hf
      rw [List.getElem?_take] at hj
      split at hj
      · next hji =>
        have hpow : 2 ^ (j + 1) ≤ 2 ^ i := Nat.pow_le_pow_right (by omega) (by omega)
        have hg : Gp lib us f.name (List.replicate es.length (M + 2 ^ i * d)) (M + 2 ^ i * (d + 1)) :=
          .user hj (by rw [List.length_replicate, e.2]) (fun x hx => by rw [(List.mem_replicate.mp hx).2]; exact Nat.le_refl _) (by omega) (by omega)
        rw [e.1] at hg
        have hsp : special g = none := by rw [← e.1]; exact (allN_ok _ (user_g hu hj).name).sp
        exact .call hsp hg (Nat.le_refl _) hb hts
      · cases hj
theorem lk0 {x : Str} {a : Nat} {r : Gm} : List.lookup x ((x, a) :: r) = some a := by rw [List.lookup_cons, beq_self_eq_true]
theorem lk1 {x y : Str} {a b : Nat} {r : Gm} (h : (x == y) = false) (k : List.lookup x r = some b) : List.lookup x ((y, a) :: r) = some b := by rw [List.lookup_cons, h]; exact k
theorem zip_has : ∀ {ps : List Str} {ds : List Nat} {x : Str}, x ∈ ps → ds.length = ps.length → ∃ d, (ps.zip ds).lookup x = some d ∧ d ∈ ds
  | p :: ps, d :: ds, x, h, hl => by
    rw [List.zip_cons_cons, List.lookup_cons]
    cases e : x == p with
    | true => exact ⟨d, rfl, List.mem_cons_self⟩
    | false =>
      have hx : x ∈ ps := by
        rcases List.mem_cons.mp h with rfl | h
        · rw [beq_self_eq_true] at e; cases e
        · exact h
      obtain ⟨d', h1, h2⟩ := zip_has hx (by simpa using hl)
      exact ⟨d', h1, List.mem_cons_of_mem _ h2⟩
  | p :: ps, [], _, _, hl => by simp at hl
theorem lv : (("l" : Str) == "v") = false := by decide +kernel
theorem vw : (("v" : Str) == "w") = false := by decide +kernel
theorem sp_lib : special "has" = none ∧ special "within" = none ∧ special "put" = none ∧ special "turn" = none := by decide +kernel
theorem ty_nil {B : Nat} {G : Str → List Nat → Nat → Prop} {C : Gm} {d : Nat} (h : 1 ≤ d) (hB : d ≤ B) : Ty B G C (.q nil) d := .q (by have := val_nil.dep; show nil.depth ≤ d; simp [T.depth, depthL]; omega) (by simp [T.wide, wideL]) trivial hB
theorem ty_yes {B : Nat} {G : Str → List Nat → Nat → Prop} {C : Gm} {d : Nat} (hB : d ≤ B) : Ty B G C (.q yes) d := .q (by simp [T.depth]) (by simp [T.wide]) yes_ok hB
theorem ty_put {lib us : Prog} (h : fnPut ∈ lib) {a b d : Nat} (ha : a ≤ 60) (hb : b ≤ 60) (h1 : a + 1 ≤ d) (h2 : b ≤ d) (h3 : 2 ≤ d) (hd : d ≤ 60) : Ty 60 (Gp lib us) (fnPut.ps.zip [a, b]) fnPut.body d := by
  have c1 : List.lookup ("v" : Str) (fnPut.ps.zip [a, b]) = some a := lk0
  have c2 : List.lookup ("l" : Str) (fnPut.ps.zip [a, b]) = some b := lk1 lv lk0
  generalize fnPut.ps.zip [a, b] = C at *
  refine .ite (.v c2 (Nat.le_refl _) hb) (.join (d1 := d - 1) (d2 := d) (.head (.v c2 (Nat.le_refl _) hb) (by omega) (by omega) (by omega)) (.call (g := "put") (ds := [a, d]) (d1 := d) sp_lib.2.2.1 (.put h h1 (Nat.le_refl _) h3) (Nat.le_refl _) hd (.cons (.v c1 (Nat.le_refl _) ha) (.cons (.tail (.v c2 (Nat.le_refl _) hb) h2 (by omega) hd) .nil))) (by omega) (Nat.le_refl _) hd)
    (.join (.v c1 (Nat.le_refl _) ha) (ty_nil (d := d) (by omega) hd) h1 (Nat.le_refl _) hd) (Nat.le_refl _) (Nat.le_refl _) hd
theorem ty_turn {lib us : Prog} (h : fnTurn ∈ lib) (hp : fnPut ∈ lib) {b d : Nat} (hb : b ≤ 60) (h2 : b ≤ d) (h3 : 2 ≤ d) (hd : d ≤ 60) : Ty 60 (Gp lib us) (fnTurn.ps.zip [b]) fnTurn.body d := by
  have c2 : List.lookup ("l" : Str) (fnTurn.ps.zip [b]) = some b := lk0
  generalize fnTurn.ps.zip [b] = C at *
  refine .ite (.v c2 (Nat.le_refl _) hb) (.call (g := "put") (ds := [d - 1, d]) (d1 := d) sp_lib.2.2.1 (.put hp (by omega) (Nat.le_refl _) h3) (Nat.le_refl _) hd (.cons (.head (.v c2 (Nat.le_refl _) hb) (by omega) (by omega) (by omega)) (.cons (.call (g := "turn") (ds := [d]) (d1 := d) sp_lib.2.2.2 (.turn h (Nat.le_refl _) h3) (Nat.le_refl _) hd (.cons (.tail (.v c2 (Nat.le_refl _) hb) h2 (by omega) hd) .nil)) .nil)))
    (ty_nil (d := d) (by omega) hd) (Nat.le_refl _) (Nat.le_refl _) hd
theorem ty_has {lib us : Prog} (h : fnWithin ∈ lib) {a b d : Nat} (ha : a ≤ 60) (hb : b ≤ 60) (h1 : 1 ≤ d) (hd : d ≤ 60) : Ty 60 (Gp lib us) (fnHas.ps.zip [a, b]) fnHas.body d := by
  have c1 : List.lookup ("w" : Str) (fnHas.ps.zip [a, b]) = some a := lk0
  have c2 : List.lookup ("v" : Str) (fnHas.ps.zip [a, b]) = some b := lk1 vw lk0
  generalize fnHas.ps.zip [a, b] = C at *
  refine .ite (d1 := 1) (.same (.v c1 (Nat.le_refl _) ha) (.v c2 (Nat.le_refl _) hb) (Nat.le_refl _) (by omega)) (ty_yes hd) (.call (g := "within") (ds := [a, b]) (d1 := d) sp_lib.2.1 (.within h h1) (Nat.le_refl _) hd (.cons (.v c1 (Nat.le_refl _) ha) (.cons (.v c2 (Nat.le_refl _) hb) .nil))) (Nat.le_refl _) (Nat.le_refl _) hd
theorem ty_within {lib us : Prog} (h : fnWithin ∈ lib) (hh : fnHas ∈ lib) {a b d : Nat} (ha : a ≤ 60) (hb : b ≤ 60) (h1 : 1 ≤ d) (hd : d ≤ 60) : Ty 60 (Gp lib us) (fnWithin.ps.zip [a, b]) fnWithin.body d := by
  have c1 : List.lookup ("w" : Str) (fnWithin.ps.zip [a, b]) = some a := lk0
  have c2 : List.lookup ("v" : Str) (fnWithin.ps.zip [a, b]) = some b := lk1 vw lk0
  generalize fnWithin.ps.zip [a, b] = C at *
  refine .ite (.v c2 (Nat.le_refl _) hb) (.ite (d1 := d) (.call (g := "has") (ds := [a, 60]) (d1 := d) sp_lib.1 (.has hh h1) (Nat.le_refl _) hd (.cons (.v c1 (Nat.le_refl _) ha) (.cons (.head (.v c2 (Nat.le_refl _) hb) (by omega) (by omega) (Nat.le_refl _)) .nil))) (ty_yes hd)
    (.call (g := "within") (ds := [a, 60]) (d1 := d) sp_lib.2.1 (.within h h1) (Nat.le_refl _) hd (.cons (.v c1 (Nat.le_refl _) ha) (.cons (.tail (.v c2 (Nat.le_refl _) hb) (by omega) (by omega) (Nat.le_refl _)) .nil))) (Nat.le_refl _) (Nat.le_refl _) hd) (ty_nil h1 hd) (Nat.le_refl _) (Nat.le_refl _) hd
theorem lib_put {lib : Prog} (hl : lib ∈ libs) (h : fnTurn ∈ lib) : fnPut ∈ lib := by
  simp only [libs, List.mem_cons, List.not_mem_nil, or_false] at hl
  rcases hl with rfl | rfl | rfl
  · exfalso
    have := List.mem_map_of_mem (f := Fn.name) h
    revert this
    decide +kernel
  · exact .head _
  · exact .head _
theorem lib_hw {lib : Prog} (hl : lib ∈ libs) (h : fnHas ∈ lib ∨ fnWithin ∈ lib) : fnHas ∈ lib ∧ fnWithin ∈ lib := by
  simp only [libs, List.mem_cons, List.not_mem_nil, or_false] at hl
  rcases hl with rfl | rfl | rfl
  · exact ⟨.head _, .tail _ (.head _)⟩
  · exfalso
    rcases h with h | h
    · have := List.mem_map_of_mem (f := Fn.name) h
      revert this
      decide +kernel
    · have := List.mem_map_of_mem (f := Fn.name) h
      revert this
      decide +kernel
  · exfalso
    rcases h with h | h
    · have := List.mem_map_of_mem (f := Fn.name) h
      revert this
      decide +kernel
    · have := List.mem_map_of_mem (f := Fn.name) h
      revert this
      decide +kernel
theorem tyP_of {lib us p : Prog} (hl : lib ∈ libs) (hu : UsersOk lib us) (nd : (p.map (·.name)).Nodup) (h1 : ∀ f ∈ lib, f ∈ p) (h2 : ∀ f ∈ us, f ∈ p) : TyP 60 (Gp lib us) p := by
  refine ⟨fun g ds d hg he hd => ?_⟩
  cases hg with
  | @put a b _ hf k1 k2 k3 => exact ⟨fnPut, look_eq nd (h1 _ hf), rfl, d, Nat.le_refl _, ty_put hf (he _ (.head _)) (he _ (.tail _ (.head _))) k1 k2 k3 hd⟩
  | turn hf k1 k2 => exact ⟨fnTurn, look_eq nd (h1 _ hf), rfl, d, Nat.le_refl _, ty_turn hf (lib_put hl hf) (he _ (.head _)) k1 k2 hd⟩
  | has hf k1 => exact ⟨fnHas, look_eq nd (h1 _ hf), rfl, d, Nat.le_refl _, ty_has (lib_hw hl (.inl hf)).2 (he _ (.head _)) (he _ (.tail _ (.head _))) k1 hd⟩
  | within hf k1 => exact ⟨fnWithin, look_eq nd (h1 _ hf), rfl, d, Nat.le_refl _, ty_within hf (lib_hw hl (.inr hf)).1 (he _ (.head _)) (he _ (.tail _ (.head _))) k1 hd⟩
  | @user i M _ u ds hui hlen hM hM2 hle =>
    refine ⟨u, look_eq nd (h2 u (List.mem_of_getElem? hui)), hlen.symm, M + 2 ^ i * 2, ?_, ?_⟩
    · rw [← Nat.pow_succ]; exact hle
    · refine ty_gen hl hu (i := i) (fun x hx => ?_) hM2 (hu.each i u hui).2.2 (by rw [← Nat.pow_succ]; omega)
      obtain ⟨d', q1, q2⟩ := zip_has hx hlen
      exact ⟨d', q1, hM d' q2⟩
theorem okvs_rep {N d : Nat} : ∀ {ts : List T}, (∀ t ∈ ts, OkV N d t) → OkVs N ts (List.replicate ts.length d)
  | [], _ => .nil
  | t :: ts, h => .cons (h t List.mem_cons_self) (okvs_rep fun t ht => h t (List.mem_cons_of_mem _ ht))
theorem GenP.typed {m : Nat} {p : Prog} (hm : m ≤ 3) (h : GenP m p) : ∃ (G : Str → List Nat → Nat → Prop) (g : Fn) (r : Prog), p = g :: r ∧ g.ps.length = m ∧ TyP 60 G p ∧ ∀ ts : List T, ts.length = m → (∀ t ∈ ts, ValOk 2 t) → StOk 60 G 0 (startM g ts) := by
  have nd := (h.facts hm).2.2.1
  obtain ⟨lib, us, body, hl, hu, hb, hp⟩ := h.is
  have hmp : (xywv.take m).length = m := by rw [List.length_take]; show min m 4 = m; omega
  have hul := hu.le
  have hst : ∀ ts : List T, ts.length = m → (∀ t ∈ ts, ValOk 2 t) → StOk 60 (Gp lib us) 0 (startM ⟨"main", xywv.take m, body⟩ ts) := fun ts hts hv => by
    have hov : OkVs 0 ts (List.replicate ts.length 2) := okvs_rep fun t ht => ⟨(hv t ht).dep, by have := (hv t ht).wid; omega, (hv t ht).ok⟩
    have hty := ty_gen hl hu (i := 2) (C := (xywv.take m).zip (List.replicate ts.length 2)) (M := 2) (fun x hx => by
      obtain ⟨d, q1, q2⟩ := zip_has hx (ds := List.replicate ts.length 2) (by rw [List.length_replicate, hts, hmp])
      exact ⟨d, q1, by rw [(List.mem_replicate.mp q2).2]; exact Nat.le_refl _⟩) (Nat.le_refl _) (n := 3) (e := body) (by rw [List.take_of_length_le hul]; exact hb) (by decide)
    exact ⟨[], .ev (EnvOk.zip hov) hty (Nat.le_refl _) (.nil (by decide)), .nil⟩
  rcases hp with rfl | rfl
  · exact ⟨Gp lib us, _, _, rfl, hmp, tyP_of hl hu nd (fun f hf => List.mem_cons_of_mem _ (List.mem_append_left _ hf)) (fun f hf => List.mem_cons_of_mem _ (List.mem_append_right _ hf)), hst⟩
  · exact ⟨Gp lib us, _, _, rfl, hmp, tyP_of hl hu nd (fun f hf => List.mem_cons_of_mem _ (List.mem_append_right _ hf)) (fun f hf => List.mem_cons_of_mem _ (List.mem_append_left _ hf)), hst⟩
end K46
/-! The mirror: its program is good; what it does. -/
namespace K46
open PySem

/-! ### renamed expressions -/
theorem renE_app (u : Str → Str) (w : Str) (es : List E) : E.ren u (.app w es) = .app (if (special w).isSome then w else u w) (es.map (E.ren u)) := by rw [E.ren, renL_map]
theorem sizeL_congr {α : Type} {f g : α → T} : ∀ {es : List α}, (∀ e ∈ es, (f e).size = (g e).size) → sizeL (es.map f) = sizeL (es.map g)
  | [], _ => rfl
  | e :: es, h => by
    rw [List.map_cons, List.map_cons, sizeL, sizeL, h e List.mem_cons_self, sizeL_congr fun e he => h e (List.mem_cons_of_mem _ he)]
theorem wideL_congr {α : Type} {f g : α → T} : ∀ {es : List α}, (∀ e ∈ es, (f e).wide = (g e).wide) → wideL (es.map f) = wideL (es.map g)
  | [], _ => rfl
  | e :: es, h => by
    rw [List.map_cons, List.map_cons, wideL, wideL, h e List.mem_cons_self, wideL_congr fun e he => h e (List.mem_cons_of_mem _ he)]
theorem ren_size (u : Str → Str) : ∀ e : E, (e.ren u).t.size = e.t.size := by
  refine E.ind (fun x => rfl) (fun t => rfl) fun w es ih => ?_
  rw [renE_app, E.t_app, E.t_app, List.map_map]
  show 1 + sizeL (es.map _) = 1 + sizeL (es.map _)
  rw [sizeL_congr (f := E.t ∘ E.ren u) (g := E.t) ih]
theorem ren_wide (u : Str → Str) : ∀ e : E, (e.ren u).t.wide = e.t.wide := by
  refine E.ind (fun x => rfl) (fun t => rfl) fun w es ih => ?_
  rw [renE_app, E.t_app, E.t_app, List.map_map]
  show max (List.length (_ :: es.map _)) (max 0 (wideL (es.map _))) = max (List.length (_ :: es.map _)) (max 0 (wideL (es.map _)))
  rw [wideL_congr (f := E.t ∘ E.ren u) (g := E.t) ih, List.length_cons, List.length_cons, List.length_map, List.length_map]
theorem ren_ok {u : Str → Str} (hu : ∀ g, WordOk (u g)) : ∀ e : E, e.t.Ok → (e.ren u).t.Ok := by
  refine E.ind (fun x h => h) (fun t h => h) fun w es ih h => ?_
  rw [E.t_app] at h
  rw [renE_app, E.t_app, List.map_map]
  refine ⟨?_, OkL_iff.mpr fun t ht => ?_⟩
  · split
    · exact h.1
    · exact hu w
  · obtain ⟨e, he, rfl⟩ := List.mem_map.mp ht
    exact ih e he (OkL_iff.mp h.2 _ (List.mem_map.mpr ⟨e, he, rfl⟩))
theorem ren_ren {u v : Str → Str} (hu : Fresh u) : ∀ e : E, (e.ren u).ren v = e.ren (fun g => v (u g)) := by
  refine E.ind (fun x => rfl) (fun t => rfl) fun w es ih => ?_
  rw [renE_app, renE_app, renE_app, List.map_map]
  have e1 : es.map (E.ren v ∘ E.ren u) = es.map (E.ren fun g => v (u g)) := List.map_congr_left ih
  rw [e1]
  by_cases h : (special w).isSome = true
  · rw [if_pos h, if_pos h, if_pos h]
  · rw [if_neg h, if_neg h, if_neg (by rw [hu w]; simp)]
theorem good_ren {c c' : Str → Option Nat} {u : Str → Str} {ps : List Str} (hu : Fresh u) (h1 : ∀ w k, special w = some k → c w = some k ∧ c' w = some k) (h2 : ∀ w k, special w = none → c w = some k → c' (u w) = some k) :
    ∀ e : E, GoodE c ps e → GoodE c' ps (e.ren u) := by
  refine E.ind (fun x h => ?_) (fun t h => .q) fun w es ih h => ?_
  · cases h with
    | v h => exact .v h
  · cases h with
    | app n hc hes =>
      rw [renE_app]
      have hl : (es.map (E.ren u)).length = es.length := List.length_map ..
      have hall : ∀ e ∈ es.map (E.ren u), GoodE c' ps e := fun e he => by
        obtain ⟨e0, h0, rfl⟩ := List.mem_map.mp he
        exact ih e0 h0 (hes e0 h0)
      by_cases hs : (special w).isSome = true
      · rw [if_pos hs]
        obtain ⟨k, hk⟩ := Option.isSome_iff_exists.mp hs
        obtain ⟨q1, q2⟩ := h1 w k hk
        rw [q1] at hc
        cases hc
        exact .app n (by rw [q2, hl]) hall
      · rw [if_neg hs]
        have hn : special w = none := by simpa using hs
        exact .app (none_not_quote (hu w)) (by rw [hl]; exact h2 w _ hn hc) hall
/-- the numbers of parts, in a larger program -/
theorem counts_has {q p : Prog} {u : Str → Str} (h : Has p q u) (hu : Fresh u) : ∀ w k, special w = none → counts q w = some k → counts p (u w) = some k := by
  intro w k hs hc
  rw [counts_fn hs, Option.map_eq_some_iff] at hc
  obtain ⟨fn, hf, rfl⟩ := hc
  rw [counts_fn (hu w), h w fn hf]
  rfl
theorem good_has {q p : Prog} {u : Str → Str} (h : Has p q u) (hu : Fresh u) {ps : List Str} {e : E} (k : GoodE (counts q) ps e) : GoodE (counts p) ps (e.ren u) :=
  good_ren hu (fun _ _ hs => ⟨counts_sp hs, counts_sp hs⟩) (counts_has h hu) e k
theorem has_ren {q p : Prog} {k : Nat} (ndp : (p.map (·.name)).Nodup) (h : ∀ f ∈ renP q k, f ∈ p) : Has p q (uOf q k) := by
  intro g fn hl
  obtain ⟨hm, rfl⟩ := look_mem hl
  exact look_eq ndp (f := ⟨uOf q k fn.name, fn.ps, fn.body.ren (uOf q k)⟩) (h _ (List.mem_map.mpr ⟨fn, hm, rfl⟩))
theorem Has.comp {p2 p1 q : Prog} {u v : Str → Str} (h2 : Has p2 p1 v) (h1 : Has p1 q u) (hu : Fresh u) : Has p2 q (fun g => v (u g)) := by
  intro g fn hl
  have := h2 _ _ (h1 g fn hl)
  rw [this]
  simp only [ren_ren hu]
theorem uOf_lt (q : Prog) (k : Nat) (g : Str) : ∃ n, n ≤ k + q.length ∧ uOf q k g = fname n := ⟨_, Nat.add_le_add_left List.findIdx_le_length k, rfl⟩
theorem uOf_fresh {q : Prog} {k : Nat} (h : k + q.length < 100) : Fresh (uOf q k) := fun g => by
  obtain ⟨n, h1, h2⟩ := uOf_lt q k g
  rw [h2]; exact fname_sp n (by omega)
theorem fname_okb : ∀ n, n < 100 → okWord (fname n) = true := by decide +kernel
theorem fname_ok {n : Nat} (h : n < 100) : WordOk (fname n) := okWord_of (fname_okb n h)
theorem uOf_ok {q : Prog} {k : Nat} (h : k + q.length < 100) (g : Str) : WordOk (uOf q k g) := by
  obtain ⟨n, h1, h2⟩ := uOf_lt q k g
  rw [h2]; exact fname_ok (by omega)
theorem renP_names {q : Prog} (nd : (q.map (·.name)).Nodup) (k : Nat) : (renP q k).map (·.name) = (List.range q.length).map fun i => fname (k + i) := by
  apply List.ext_getElem?
  intro i
  unfold renP
  rw [List.map_map, List.getElem?_map, List.getElem?_map]
  cases e : q[i]? with
  | none =>
    have := List.getElem?_eq_none_iff.mp e
    rw [List.getElem?_eq_none_iff.mpr (by rw [List.length_range]; exact this)]
    rfl
  | some f =>
    have hi := (List.getElem?_eq_some_iff.mp e).1
    rw [List.getElem?_range hi]
    exact congrArg some (uOf_at nd k e)
theorem joinL_names {j n y : Prog} (h1 : (j.map (·.name)).Nodup) (h2 : (n.map (·.name)).Nodup) (h3 : (y.map (·.name)).Nodup) : (joinL 0 [j, n, y]).map (·.name) = (List.range (j.length + n.length + y.length)).map fname := by
  have e : joinL 0 [j, n, y] = renP j 0 ++ (renP n (0 + j.length) ++ (renP y (0 + j.length + n.length) ++ [])) := rfl
  rw [e, List.append_nil, List.map_append, List.map_append, renP_names h1, renP_names h2, renP_names h3, List.range_add, List.range_add, List.map_append, List.map_append, List.map_map, List.map_map, List.append_assoc]
  simp only [Nat.zero_add]
  rfl
theorem names_num {σ : List Nat} (nd : σ.Nodup) (lt : ∀ n ∈ σ, n < 100) : (σ.map fname).Nodup := by
  unfold List.Nodup
  rw [List.pairwise_map]
  exact List.Pairwise.imp_of_mem (fun ha hb h e => h (fname_inj _ (lt _ ha) _ (lt _ hb) e)) nd
/-- what renaming keeps -/
structure Pk (p : Prog) : Prop where
  ps : ∀ f ∈ p, f.ps.Nodup ∧ f.ps.length ≤ 4 ∧ (∀ x ∈ f.ps, WordOk x) ∧ ∀ x ∈ f.ps, special x = none
  ok : ∀ f ∈ p, f.body.t.Ok
  wide : ∀ f ∈ p, f.body.t.wide ≤ 100
def psz (p : Prog) : Nat := szL (p.map Fn.t)
theorem progT_size (p : Prog) : (progT p).size = 1 + psz p := sizeL_szL _
theorem psz_append (p q : Prog) : psz (p ++ q) = psz p + psz q := by unfold psz; rw [List.map_append, szL_append]
theorem psz_cons (f : Fn) (p : Prog) : psz (f :: p) = f.t.size + psz p := by unfold psz; simp [szL]
theorem psz_mem {f : Fn} : ∀ {p : Prog}, f ∈ p → f.t.size ≤ psz p
  | g :: p, h => by
    rw [psz_cons]
    rcases List.mem_cons.mp h with rfl | h
    · omega
    · have := psz_mem h; omega
theorem psz_ren (k : Nat) (q : Prog) : psz (renP q k) = psz q := by
  unfold renP
  generalize uOf q k = u
  induction q with
  | nil => rfl
  | cons f q ih =>
    rw [List.map_cons, psz_cons, psz_cons, ih, fn_size, fn_size, ren_size]
theorem pk_ren {q : Prog} {k : Nat} (h : Pk q) (hk : k + q.length < 100) : Pk (renP q k) := by
  have hm : ∀ f ∈ renP q k, ∃ f0 ∈ q, f = ⟨uOf q k f0.name, f0.ps, f0.body.ren (uOf q k)⟩ := fun f hf => by
    obtain ⟨f0, h0, rfl⟩ := List.mem_map.mp hf
    exact ⟨f0, h0, rfl⟩
  refine ⟨fun f hf => ?_, fun f hf => ?_, fun f hf => ?_⟩ <;> obtain ⟨f0, h0, rfl⟩ := hm f hf
  · exact h.ps f0 h0
  · exact ren_ok (uOf_ok hk) _ (h.ok f0 h0)
  · show (f0.body.ren _).t.wide ≤ 100
    rw [ren_wide]; exact h.wide f0 h0
theorem pk_append {p q : Prog} (h : Pk p) (k : Pk q) : Pk (p ++ q) := by
  refine ⟨fun f hf => ?_, fun f hf => ?_, fun f hf => ?_⟩ <;> rcases List.mem_append.mp hf with hf | hf
  · exact h.ps f hf
  · exact k.ps f hf
  · exact h.ok f hf
  · exact k.ok f hf
  · exact h.wide f hf
  · exact k.wide f hf
theorem pk_cons {f : Fn} {q : Prog} (h : Pk [f]) (k : Pk q) : Pk (f :: q) := pk_append h k
/-- a program whose functions have made names -/
structure Num (p : Prog) (σ : List Nat) : Prop where
  nm : p.map (·.name) = σ.map fname
  nd : σ.Nodup
  lt : ∀ n ∈ σ, n < p.length
theorem Num.names {p : Prog} {σ : List Nat} (h : Num p σ) (hl : p.length ≤ 90) : (p.map (·.name)).Nodup := by
  rw [h.nm]; exact names_num h.nd fun n hn => by have := h.lt n hn; omega
theorem Num.name {p : Prog} {σ : List Nat} (h : Num p σ) {f : Fn} (hf : f ∈ p) : ∃ n, n < p.length ∧ f.name = fname n := by
  have : f.name ∈ p.map (·.name) := List.mem_map.mpr ⟨f, hf, rfl⟩
  rw [h.nm] at this
  obtain ⟨n, hn, e⟩ := List.mem_map.mp this
  exact ⟨n, h.lt n hn, e.symm⟩
theorem good_num {p : Prog} {σ : List Nat} (h : Num p σ) (hl : p.length ≤ 90) (ne : p ≠ []) (hk : Pk p) (hs : psz p ≤ 100000) (hb : ∀ f ∈ p, GoodE (counts p) f.ps f.body) : Good p where
  ne := ne
  le := by omega
  nd := h.names hl
  fit := fun f hf => by obtain ⟨n, h1, h2⟩ := h.name hf; exact .inr ⟨n, h1, by omega, h2⟩
  sp := fun f hf => by obtain ⟨n, h1, h2⟩ := h.name hf; rw [h2]; exact fname_sp n (by omega)
  ps := fun f hf => by obtain ⟨h1, h2, h3, h4⟩ := hk.ps f hf; exact ⟨h1, by omega, h4⟩
  body := hb
  nl := fun f hf => by obtain ⟨n, h1, h2⟩ := h.name hf; rw [h2]; have := (fname_cps n (by omega)).2.2; omega
  size := fun f hf => by have h1 := psz_mem hf; have h2 := fn_size f; omega
theorem slim_num {p : Prog} {σ : List Nat} (h : Num p σ) (hl : p.length ≤ 90) (hk : Pk p) : Slim p :=
  ⟨h.names hl, hk.wide, fun f hf => (hk.ps f hf).1, fun f hf => by have := (hk.ps f hf).2.1; omega⟩
theorem num_ok {p : Prog} {σ : List Nat} (h : Num p σ) (hl : p.length ≤ 90) (hk : Pk p) : (progT p).Ok := prog_ok fun f hf => by
  obtain ⟨n, h1, h2⟩ := h.name hf
  exact fn_ok (by rw [h2]; exact fname_ok (by omega)) (hk.ps f hf).2.2.1 (hk.ok f hf)
/-- the functions of a good program, renamed, in a larger one -/
theorem good_part {q p : Prog} {k : Nat} (hq : Good q) (hk : k + q.length < 100) (ndp : (p.map (·.name)).Nodup) (h : ∀ f ∈ renP q k, f ∈ p) : ∀ f ∈ renP q k, GoodE (counts p) f.ps f.body := by
  intro f hf
  obtain ⟨f0, h0, rfl⟩ := List.mem_map.mp hf
  exact good_has (has_ren ndp h) (uOf_fresh hk) (hq.body f0 h0)

/-! ### the expressions of the mirror -/
abbrev vars (xs : List Str) : List E := xs.map E.v
theorem vars_t (xs : List Str) : (vars xs).map E.t = xs.map T.w := by rw [List.map_map]; rfl
def jE (a b : E) : E := .app sJoin [a, b]
def listE : List E → E
  | [] => .q nil
  | e :: es => jE e (listE es)
def treeE (main : Str) (number many : Nat) : E :=
  jE (listE [.q (.w (fname number)), .q (.l ((xnames many).map T.w)), jE (.q (.w main)) (jE (listE [.q (.w sQuote), .v "s"]) (.q (.l ((xnames many).map T.w))))]) (.v "s")
theorem treeE_t (main : Str) (number many : Nat) : (treeE main number many).t = treeT main number many := by
  simp [treeE, listE, jE, E.t, tL, treeT, listT, tQ, tJ]
theorem jE_t (a b : E) : (jE a b).t = .l [.w sJoin, a.t, b.t] := by simp [jE, E.t, tL]
structure XsOk (m : Nat) : Prop where
  ps : PsOk (xnames m)
  nd : (("s" : Str) :: xnames m).Nodup
  s : WordOk "s"
  sp : special "s" = none
theorem xs_b : ∀ m, m ≤ 3 → (decide (xnames m).Nodup && decide ((xnames m).length ≤ 3) && (xnames m).all (fun x => okWord x && decide (special x = none)) && decide (("s" : Str) :: xnames m).Nodup && okWord "s" && decide (special "s" = none)) = true := by decide +kernel
theorem xs_ok {m : Nat} (h : m ≤ 3) : XsOk m := by
  have := xs_b m h
  simp only [Bool.and_eq_true, decide_eq_true_eq, List.all_eq_true] at this
  obtain ⟨⟨⟨⟨⟨h1, h2⟩, h3⟩, h4⟩, h5⟩, h6⟩ := this
  exact ⟨⟨h1, h2, fun x hx => okWord_of (h3 x hx).1, fun x hx => (h3 x hx).2⟩, h4, okWord_of h5, h6⟩
theorem xnames_len (m : Nat) : (xnames m).length = m := by unfold xnames; rw [List.length_map, List.length_range]
end K46
/-! The mirror: what it does. -/
namespace K46
open PySem

/-! ### plain expressions in a larger run -/
inductive Sim (r : List (Str × T)) : E → T → Nat → Nat → Prop
  | v {x : Str} {t : T} : r.lookup x = some t → Sim r (.v x) t 1 1
  | q {t : T} : Sim r (.q t) t 1 1
  | join {a b : E} {x y : T} {s1 s2 m1 m2 : Nat} : Sim r a x s1 m1 → Sim r b y s2 m2 → Sim r (jE a b) (tJoin x y) (s1 + s2 + 1) (m1 + m2 + 2)
theorem Sim.goes {p : Prog} {r : List (Str × T)} {e : E} {t : T} {s m : Nat} (h : Sim r e t s m) : ∀ (k : List Task) (f : List T) (n : Nat), Goes p ⟨.ev e r :: k, f, n⟩ m ⟨k, t :: f, n + s⟩ := by
  induction h with
  | v h => exact fun k f n => .one (step_v h k f n)
  | q => exact fun k f n => .one rfl
  | @join a b x y s1 s2 m1 m2 ha hb iha ihb =>
    intro k f n
    have h1 : Goes p ⟨.ev (jE a b) r :: k, f, n⟩ 1 ⟨.ev a r :: .ev b r :: .op sJoin :: k, f, n + 1⟩ := .one (step_plain p_join ..)
    have h2 := iha (.ev b r :: .op sJoin :: k) f (n + 1)
    have h3 := ihb (.op sJoin :: k) (x :: f) (n + 1 + s1)
    have h4 : Goes p ⟨.op sJoin :: k, y :: x :: f, n + 1 + s1 + s2⟩ 1 ⟨k, tJoin x y :: f, n + 1 + s1 + s2⟩ := .one (step_op (do_join ..) ..)
    have := ((h1.trans h2).trans h3).trans h4
    rw [show n + (s1 + s2 + 1) = n + 1 + s1 + s2 by omega, show m1 + m2 + 2 = 1 + m1 + m2 + 1 by omega]
    exact this
inductive Sims (r : List (Str × T)) : List E → List T → Nat → Nat → Prop
  | nil : Sims r [] [] 0 0
  | cons {e : E} {es : List E} {t : T} {ts : List T} {s1 s2 m1 m2 : Nat} : Sim r e t s1 m1 → Sims r es ts s2 m2 → Sims r (e :: es) (t :: ts) (s1 + s2) (m1 + m2)
theorem Sims.goes {p : Prog} {r : List (Str × T)} {es : List E} {ts : List T} {s m : Nat} (h : Sims r es ts s m) : ∀ (k : List Task) (f : List T) (n : Nat), Goes p ⟨es.map (fun e => Task.ev e r) ++ k, f, n⟩ m ⟨k, ts.reverse ++ f, n + s⟩ := by
  induction h with
  | nil => exact fun k f n => .here
  | @cons e es t ts s1 s2 m1 m2 h _ ih =>
    intro k f n
    have h1 := h.goes (p := p) (es.map (fun e => Task.ev e r) ++ k) f n
    have h2 := ih k (t :: f) (n + s1)
    have := h1.trans h2
    rw [List.reverse_cons, List.append_assoc, ← Nat.add_assoc]
    exact this
theorem Sims.length {r : List (Str × T)} {es : List E} {ts : List T} {s m : Nat} (h : Sims r es ts s m) : es.length = ts.length := by
  induction h with
  | nil => rfl
  | cons _ _ ih => rw [List.length_cons, List.length_cons, ih]
theorem sims_vars {r : List (Str × T)} : ∀ {xs : List Str} {ts : List T}, xs.length = ts.length → (∀ (i : Nat) (x : Str) (t : T), xs[i]? = some x → ts[i]? = some t → r.lookup x = some t) → Sims r (vars xs) ts xs.length xs.length
  | [], [], _, _ => .nil
  | x :: xs, t :: ts, hl, h => by
    have := Sims.cons (.v (h 0 x t rfl rfl)) (sims_vars (r := r) (xs := xs) (ts := ts) (by simpa using hl) fun i y u hy hu => h (i + 1) y u (by simpa using hy) (by simpa using hu))
    rw [List.length_cons, Nat.add_comm]
    exact this
theorem lookup_zip : ∀ {ps : List Str} {ts : List T} {i : Nat} {x : Str} {t : T}, ps.Nodup → ps[i]? = some x → ts[i]? = some t → (ps.zip ts).lookup x = some t
  | p :: ps, u :: ts, 0, x, t, nd, h1, h2 => by
    simp only [List.getElem?_cons_zero, Option.some.injEq] at h1 h2
    subst h1 h2
    rw [List.zip_cons_cons, List.lookup_cons, beq_self_eq_true]
  | p :: ps, u :: ts, i + 1, x, t, nd, h1, h2 => by
    rw [List.getElem?_cons_succ] at h1 h2
    rw [List.nodup_cons] at nd
    have hne : (x == p) = false := by
      rw [beq_eq_false_iff_ne]
      rintro rfl
      exact nd.1 (List.mem_of_getElem? h1)
    rw [List.zip_cons_cons, List.lookup_cons, hne]
    exact lookup_zip nd.2 h1 h2
  | [], _, _, _, _, _, h, _ => by simp at h
  | _ :: _, [], _, _, _, _, _, h => by simp at h
/-- a call whose parts are plain -/
theorem goes_call {p : Prog} {g : Str} {fn : Fn} {r : List (Str × T)} {es : List E} {ts : List T} {s m : Nat} (hs : special g = none) (hl : look p g = some fn) (h : Sims r es ts s m) (hn : ts.length = fn.ps.length) (k : List Task) (f : List T) (n : Nat) :
    Goes p ⟨.ev (.app g es) r :: k, f, n⟩ (m + 2) ⟨.ev fn.body (fn.ps.zip ts) :: k, f, n + 1 + s⟩ := by
  have h1 : Goes p ⟨.ev (.app g es) r :: k, f, n⟩ 1 ⟨es.map (fun e => Task.ev e r) ++ Task.call g es.length :: k, f, n + 1⟩ := .one (step_callE hs ..)
  have h2 := h.goes (p := p) (Task.call g es.length :: k) f (n + 1)
  have hel := h.length
  have h3 : step p ⟨Task.call g es.length :: k, ts.reverse ++ f, n + 1 + s⟩ = some ⟨.ev fn.body (fn.ps.zip ts) :: k, f, n + 1 + s⟩ := by
    simp only [step, hl]
    rw [if_pos ⟨by omega, by rw [List.length_append, List.length_reverse]; omega⟩]
    have e1 : (ts.reverse ++ f).take es.length = ts.reverse := List.take_left' (by rw [List.length_reverse, hel])
    have e2 : (ts.reverse ++ f).drop es.length = f := List.drop_left' (by rw [List.length_reverse, hel])
    rw [e1, e2, List.reverse_reverse]
  have := (h1.trans h2).trans (.one h3)
  rw [show m + 2 = 1 + m + 1 by omega]
  exact this
theorem sim_tree {r : List (Str × T)} {S : T} (h : List.lookup ("s" : Str) r = some S) (main : Str) (number many : Nat) : ∃ V, Sim r (treeE main number many) V 17 25 :=
  ⟨_, .join (.join .q (.join .q (.join (.join .q (.join (.join .q (.join (.v h) .q)) .q)) .q))) (.v h)⟩

/-! ### the programs -/
theorem vars_tf (xs : List Str) : List.map E.t (vars xs) = List.map T.w xs := vars_t xs
theorem tL_vars (xs : List Str) : tL (vars xs) = xs.map T.w := by rw [tL_map, vars_tf]
section
variable (j n y : Prog) (m : Nat)
abbrev mN : Nat := j.length + n.length + y.length
def mirG : Fn := ⟨fname (joinL 0 [j, n, y]).length, "s" :: xnames m, .app sIf [.app (fname 0) [.v "s"], .app (fname (j.length + n.length)) (vars (xnames m)), .app (fname j.length) (vars (xnames m))]⟩
def mirP : Prog := mirG j n y m :: joinL 0 [j, n, y]
def knG : Fn := ⟨fname (renP (mirP j n y m) 0).length, "s" :: xnames m, .app (fname 0) (treeE (fname (renP (mirP j n y m) 0).length) ((renP (mirP j n y m) 0).length + 1) m :: vars (xnames m))⟩
def knP : Prog := knG j n y m :: renP (mirP j n y m) 0
def madeG : Fn := ⟨fname ((joinL 0 [j, n, y]).length + 2), xnames m, .app (fname ((joinL 0 [j, n, y]).length + 1)) (.q (progT (knP j n y m)) :: vars (xnames m))⟩
def madeP : Prog := madeG j n y m :: knP j n y m
theorem jl_len : (joinL 0 [j, n, y]).length = j.length + n.length + y.length := by rw [joinL_length]; simp [Nat.add_assoc]
theorem mirP_t : progT (mirP j n y m) = mirT j n y m := by
  simp [progT, mirP, mirT, Fn.t, mirG, E.t_app, tL, tL_vars, vars_tf, E.t]
theorem knP_t : progT (knP j n y m) = knowT ((renP (mirP j n y m) 0).map Fn.t) m := by
  simp [progT, knP, knowT, Fn.t, knG, E.t_app, tL, tL_vars, vars_tf, treeE_t, E.t]
theorem madeP_t : progT (madeP j n y m) = .l (fillT (fname ((joinL 0 [j, n, y]).length + 1)) ((joinL 0 [j, n, y]).length + 2) (progT (knP j n y m)) m :: (knP j n y m).map Fn.t) := by
  simp [progT, madeP, Fn.t, madeG, E.t_app, tL, tL_map, vars_tf, fillT, E.t, tQ]
end
end K46
/-! The mirror: good, and its run. -/
namespace K46
open PySem

structure Trio (j n y : Prog) (m : Nat) : Prop where
  gj : Good j
  gn : Good n
  gy : Good y
  pj : Pk j
  pn : Pk n
  py : Pk y
  len : j.length + n.length + y.length ≤ 20
  sz : psz j + psz n + psz y ≤ 14000
  m3 : m ≤ 3
  hj : ∃ h r, j = h :: r ∧ h.ps.length = 1
  hn : ∃ h r, n = h :: r ∧ h.ps.length = m
  hy : ∃ h r, y = h :: r ∧ h.ps.length = m
theorem head_has {q p r : Prog} {h : Fn} {k : Nat} (e : q = h :: r) (nd : (q.map (·.name)).Nodup) (hh : Has p q (uOf q k)) : look p (fname k) = some ⟨fname k, h.ps, h.body.ren (uOf q k)⟩ := by
  have h1 : q[0]? = some h := by rw [e]; rfl
  have h2 : uOf q k h.name = fname k := (uOf_at nd k h1).trans (congrArg fname (Nat.add_zero k))
  have h3 := hh h.name h (look_eq nd (by rw [e]; exact List.mem_cons_self))
  rw [h2] at h3
  exact h3
theorem counts_look {p : Prog} {x : Str} {f : Fn} (hs : special x = none) (h : look p x = some f) : counts p x = some f.ps.length := by
  rw [counts_fn hs, h]; rfl
theorem good_mono {c c' : Str → Option Nat} {ps : List Str} (h : ∀ w k, c w = some k → c' w = some k) : ∀ e : E, GoodE c ps e → GoodE c' ps e := by
  refine E.ind (fun x k => ?_) (fun t k => .q) fun w es ih k => ?_
  · cases k with
    | v k => exact .v k
  · cases k with
    | app n hc hes => exact .app n (h _ _ hc) fun e he => ih e he (hes e he)
theorem good_vars {c : Str → Option Nat} {ps xs : List Str} (h : ∀ x ∈ xs, x ∈ ps) : ∀ e ∈ vars xs, GoodE c ps e := by
  intro e he
  obtain ⟨x, hx, rfl⟩ := List.mem_map.mp he
  exact .v (h x hx)
theorem good_call {p : Prog} {x : Str} {f : Fn} {ps : List Str} {es : List E} (hs : special x = none) (h : look p x = some f) (hl : f.ps.length = es.length) (hes : ∀ e ∈ es, GoodE (counts p) ps e) : GoodE (counts p) ps (.app x es) :=
  .app (none_not_quote hs) (by rw [counts_look hs h, hl]) hes
theorem good_j {p : Prog} {ps : List Str} {a b : E} (ha : GoodE (counts p) ps a) (hb : GoodE (counts p) ps b) : GoodE (counts p) ps (jE a b) :=
  .app not_quote.2.2.2.2.2 (counts_sp sps.2.2.2.2.2.1) (two ha hb)
theorem good_tree {p : Prog} {ps : List Str} (h : ("s" : Str) ∈ ps) (main : Str) (number many : Nat) : GoodE (counts p) ps (treeE main number many) :=
  good_j (good_j .q (good_j .q (good_j (good_j .q (good_j (good_j .q (good_j (.v h) .q)) .q)) .q))) (.v h)
theorem Ev_t (x : Str) : (E.v x).t = .w x := rfl
theorem Eq_t (t : T) : (E.q t).t = .l [.w sQuote, t] := rfl
theorem len_vars (xs : List Str) : (vars xs).length = xs.length := List.length_map ..
theorem wide_vars (xs : List Str) : wideL (xs.map T.w) = 0 := by
  induction xs with
  | nil => rfl
  | cons x xs ih => rw [List.map_cons, wideL, ih]; rfl
section
variable {j n y : Prog} {m : Nat}
theorem mir_num (t : Trio j n y m) : Num (mirP j n y m) ((j.length + n.length + y.length) :: List.range (j.length + n.length + y.length)) := by
  refine ⟨?_, ?_, ?_⟩
  · show fname (joinL 0 [j, n, y]).length :: (joinL 0 [j, n, y]).map (·.name) = _
    rw [joinL_names t.gj.nd t.gn.nd t.gy.nd, jl_len]
    rfl
  · rw [List.nodup_cons]
    exact ⟨by simp, List.nodup_range⟩
  · intro k hk
    show k < (joinL 0 [j, n, y]).length + 1
    rw [jl_len]
    rcases List.mem_cons.mp hk with rfl | hk
    · omega
    · have := List.mem_range.mp hk; omega
theorem mir_len : (mirP j n y m).length = j.length + n.length + y.length + 1 := by
  show (joinL 0 [j, n, y]).length + 1 = _
  rw [jl_len]
theorem mir_nd (t : Trio j n y m) : ((mirP j n y m).map (·.name)).Nodup := (mir_num t).names (by rw [mir_len]; have := t.len; omega)
theorem jl_eq : joinL 0 [j, n, y] = renP j 0 ++ (renP n j.length ++ renP y (j.length + n.length)) := by
  show renP j 0 ++ (renP n (0 + j.length) ++ (renP y (0 + j.length + n.length) ++ [])) = _
  rw [List.append_nil, Nat.zero_add]
theorem mir_mem : (∀ f ∈ renP j 0, f ∈ mirP j n y m) ∧ (∀ f ∈ renP n j.length, f ∈ mirP j n y m) ∧ ∀ f ∈ renP y (j.length + n.length), f ∈ mirP j n y m := by
  unfold mirP
  rw [jl_eq]
  exact ⟨fun f h => List.mem_cons_of_mem _ (List.mem_append_left _ h), fun f h => List.mem_cons_of_mem _ (List.mem_append_right _ (List.mem_append_left _ h)), fun f h => List.mem_cons_of_mem _ (List.mem_append_right _ (List.mem_append_right _ h))⟩
theorem mir_has (t : Trio j n y m) : Has (mirP j n y m) j (uOf j 0) ∧ Has (mirP j n y m) n (uOf n j.length) ∧ Has (mirP j n y m) y (uOf y (j.length + n.length)) :=
  ⟨has_ren (mir_nd t) mir_mem.1, has_ren (mir_nd t) mir_mem.2.1, has_ren (mir_nd t) mir_mem.2.2⟩
theorem mir_fresh (t : Trio j n y m) : Fresh (uOf j 0) ∧ Fresh (uOf n j.length) ∧ Fresh (uOf y (j.length + n.length)) := by
  have := t.len
  exact ⟨uOf_fresh (by omega), uOf_fresh (by omega), uOf_fresh (by omega)⟩
theorem mir_pk (t : Trio j n y m) : Pk (mirP j n y m) := by
  have hl := t.len
  obtain ⟨⟨x1, x2, x3, x4⟩, x5, x6, x7⟩ := xs_ok t.m3
  unfold mirP
  rw [jl_eq]
  refine pk_cons ?_ (pk_append (pk_ren t.pj (by omega)) (pk_append (pk_ren t.pn (by omega)) (pk_ren t.py (by omega))))
  have hm : ∀ f ∈ [mirG j n y m], f = mirG j n y m := fun f hf => List.mem_singleton.mp hf
  refine ⟨fun f hf => ?_, fun f hf => ?_, fun f hf => ?_⟩ <;> rw [hm f hf]
  · refine ⟨x5, by show (xnames m).length + 1 ≤ 4; omega, fun x hx => ?_, fun x hx => ?_⟩
    · rcases List.mem_cons.mp hx with rfl | hx
      · exact x6
      · exact x3 x hx
    · rcases List.mem_cons.mp hx with rfl | hx
      · exact x7
      · exact x4 x hx
  · show T.Ok (E.t (.app sIf [.app (fname 0) [.v "s"], .app (fname (j.length + n.length)) (vars (xnames m)), .app (fname j.length) (vars (xnames m))]))
    simp only [E.t_app, List.map_cons, List.map_nil, vars_t]
    exact ⟨wi.1, ⟨fname_ok (by omega), x6, trivial⟩, ⟨fname_ok (by omega), okL_words x3⟩, ⟨fname_ok (by omega), okL_words x3⟩, trivial⟩
  · show T.wide (E.t (.app sIf [.app (fname 0) [.v "s"], .app (fname (j.length + n.length)) (vars (xnames m)), .app (fname j.length) (vars (xnames m))])) ≤ 100
    simp only [E.t_app, List.map_cons, List.map_nil, vars_t, T.wide, wideL, wide_vars, List.length_cons, List.length_map, List.length_nil, Ev_t]
    omega
theorem mir_psz (t : Trio j n y m) : psz (mirP j n y m) ≤ 14030 := by
  have hs := t.sz
  have hm := t.m3
  have hx := xnames_len m
  unfold mirP
  rw [psz_cons, jl_eq, psz_append, psz_append, psz_ren, psz_ren, psz_ren, fn_size]
  have h1 : (mirG j n y m).body.t.size = 9 + 2 * m := by
    show T.size (E.t (.app sIf [.app (fname 0) [.v "s"], .app (fname (j.length + n.length)) (vars (xnames m)), .app (fname j.length) (vars (xnames m))])) = _
    simp only [E.t_app, List.map_cons, List.map_nil, vars_t, T.size, sizeL, sizeL_words, Ev_t, hx]
    omega
  have h2 : (mirG j n y m).ps.length = m + 1 := by show (xnames m).length + 1 = _; rw [hx]
  rw [h1, h2]
  omega
theorem mir_good (t : Trio j n y m) : Good (mirP j n y m) := by
  have hl := t.len
  have hs := mir_psz t
  have hx := xnames_len m
  have nd := mir_nd t
  refine good_num (mir_num t) (by rw [mir_len]; omega) (by simp [mirP]) (mir_pk t) (by omega) fun f hf => ?_
  obtain ⟨hj, hn, hy⟩ := mir_has t
  obtain ⟨gj, rj, ej, lj⟩ := t.hj
  obtain ⟨gn, rn, en, ln⟩ := t.hn
  obtain ⟨gy, ry, ey, ly⟩ := t.hy
  have lkj := head_has ej t.gj.nd hj
  have lkn := head_has en t.gn.nd hn
  have lky := head_has ey t.gy.nd hy
  rcases List.mem_cons.mp hf with rfl | hf
  · refine .app not_quote.1 (counts_sp sps.1) fun e he => ?_
    have hv : ∀ e ∈ vars (xnames m), GoodE (counts (mirP j n y m)) ("s" :: xnames m) e := good_vars fun x hx => List.mem_cons_of_mem _ hx
    simp only [List.mem_cons, List.not_mem_nil, or_false] at he
    rcases he with rfl | rfl | rfl
    · exact good_call (fname_sp _ (by omega)) lkj lj (one1 (.v (List.mem_cons_self)))
    · exact good_call (fname_sp _ (by omega)) lky (by rw [len_vars, hx]; exact ly) hv
    · exact good_call (fname_sp _ (by omega)) lkn (by rw [len_vars, hx]; exact ln) hv
  · have hf' := hf
    rw [jl_eq] at hf'
    rcases List.mem_append.mp hf' with h | h
    · exact good_part t.gj (by omega) nd mir_mem.1 f h
    · rcases List.mem_append.mp h with h | h
      · exact good_part t.gn (by omega) nd mir_mem.2.1 f h
      · exact good_part t.gy (by omega) nd mir_mem.2.2 f h

theorem rm_len : (renP (mirP j n y m) 0).length = j.length + n.length + y.length + 1 := by rw [renP_length, mir_len]
theorem kn_len : (knP j n y m).length = j.length + n.length + y.length + 2 := by
  show (renP (mirP j n y m) 0).length + 1 = _
  rw [rm_len]
theorem kn_num (t : Trio j n y m) : Num (knP j n y m) ((j.length + n.length + y.length + 1) :: List.range (j.length + n.length + y.length + 1)) := by
  refine ⟨?_, ?_, ?_⟩
  · show fname (renP (mirP j n y m) 0).length :: (renP (mirP j n y m) 0).map (·.name) = _
    rw [renP_names (mir_nd t), rm_len, mir_len]
    simp only [Nat.zero_add]
    rfl
  · rw [List.nodup_cons]
    exact ⟨by simp, List.nodup_range⟩
  · intro k hk
    rw [kn_len]
    rcases List.mem_cons.mp hk with rfl | hk
    · omega
    · have := List.mem_range.mp hk; omega
theorem kn_nd (t : Trio j n y m) : ((knP j n y m).map (·.name)).Nodup := (kn_num t).names (by rw [kn_len]; have := t.len; omega)
theorem kn_mem : ∀ f ∈ renP (mirP j n y m) 0, f ∈ knP j n y m := fun f h => List.mem_cons_of_mem _ h
theorem tree_ok {main : Str} {number many : Nat} (h1 : WordOk main) (h2 : number < 100) (h3 : XsOk many) : (treeE main number many).t.Ok := by
  obtain ⟨w1, w2, w3, w4, w5, w6, w7⟩ := wi
  have hx := okL_words h3.ps.ok
  unfold treeE listE listE listE listE listE listE
  simp only [jE_t, Ev_t, Eq_t]
  exact ⟨w6, ⟨w6, ⟨w7, fname_ok h2, trivial⟩, ⟨w6, ⟨w7, hx, trivial⟩, ⟨w6, ⟨w6, ⟨w7, h1, trivial⟩, ⟨w6, ⟨w6, ⟨w7, w7, trivial⟩, ⟨w6, h3.s, ⟨w7, trivial, trivial⟩, trivial⟩, trivial⟩, ⟨w7, hx, trivial⟩, trivial⟩, trivial⟩, ⟨w7, trivial, trivial⟩, trivial⟩, trivial⟩, trivial⟩, h3.s, trivial⟩
theorem tree_wide {main : Str} {number many : Nat} (h : many ≤ 3) : (treeE main number many).t.wide ≤ 3 := by
  have hx := xnames_len many
  unfold treeE listE listE listE listE listE listE
  simp only [jE_t, Ev_t, Eq_t, T.wide, wideL, List.length_cons, List.length_nil, List.length_map, wide_vars, hx, Nat.max_le]
  omega
theorem tree_size {main : Str} {number many : Nat} (h : many ≤ 3) : (treeE main number many).t.size ≤ 60 := by
  have hx := xnames_len many
  unfold treeE listE listE listE listE listE listE
  simp only [jE_t, Ev_t, Eq_t, T.size, sizeL, sizeL_words, hx]
  omega
theorem kn_pk (t : Trio j n y m) : Pk (knP j n y m) := by
  have hl := t.len
  have hxs := xs_ok t.m3
  obtain ⟨⟨x1, x2, x3, x4⟩, x5, x6, x7⟩ := xs_ok t.m3
  unfold knP
  refine pk_cons ?_ (pk_ren (mir_pk t) (by rw [mir_len]; omega))
  have hm : ∀ f ∈ [knG j n y m], f = knG j n y m := fun f hf => List.mem_singleton.mp hf
  have hrl := rm_len (j := j) (n := n) (y := y) (m := m)
  refine ⟨fun f hf => ?_, fun f hf => ?_, fun f hf => ?_⟩ <;> rw [hm f hf]
  · refine ⟨x5, by show (xnames m).length + 1 ≤ 4; omega, fun x hx => ?_, fun x hx => ?_⟩
    · rcases List.mem_cons.mp hx with rfl | hx
      · exact x6
      · exact x3 x hx
    · rcases List.mem_cons.mp hx with rfl | hx
      · exact x7
      · exact x4 x hx
  · show T.Ok (E.t (.app (fname 0) (treeE (fname (renP (mirP j n y m) 0).length) ((renP (mirP j n y m) 0).length + 1) m :: vars (xnames m))))
    rw [E.t_app, List.map_cons, vars_t]
    exact ⟨fname_ok (by omega), tree_ok (fname_ok (by omega)) (by omega) hxs, okL_words x3⟩
  · show T.wide (E.t (.app (fname 0) (treeE (fname (renP (mirP j n y m) 0).length) ((renP (mirP j n y m) 0).length + 1) m :: vars (xnames m)))) ≤ 100
    rw [E.t_app, List.map_cons, vars_t]
    have := tree_wide (main := fname (renP (mirP j n y m) 0).length) (number := (renP (mirP j n y m) 0).length + 1) t.m3
    simp only [T.wide, wideL, wide_vars, List.length_cons, List.length_map]
    omega
theorem kn_psz (t : Trio j n y m) : psz (knP j n y m) ≤ 14120 := by
  have hs := mir_psz t
  have hm := t.m3
  have hx := xnames_len m
  unfold knP
  rw [psz_cons, psz_ren, fn_size]
  have h1 : (knG j n y m).body.t.size ≤ 65 := by
    show T.size (E.t (.app (fname 0) (treeE (fname (renP (mirP j n y m) 0).length) ((renP (mirP j n y m) 0).length + 1) m :: vars (xnames m)))) ≤ _
    have := tree_size (main := fname (renP (mirP j n y m) 0).length) (number := (renP (mirP j n y m) 0).length + 1) hm
    rw [E.t_app, List.map_cons, vars_t]
    simp only [T.size, sizeL, sizeL_words, hx]
    omega
  have h2 : (knG j n y m).ps.length = m + 1 := by show (xnames m).length + 1 = _; rw [hx]
  rw [h2]
  omega
theorem kn_has (t : Trio j n y m) : Has (knP j n y m) (mirP j n y m) (uOf (mirP j n y m) 0) := has_ren (kn_nd t) kn_mem
theorem kn_good (t : Trio j n y m) : Good (knP j n y m) := by
  have hl := t.len
  have hs := kn_psz t
  have hx := xnames_len m
  have lk := head_has rfl (mir_nd t) (kn_has t)
  refine good_num (kn_num t) (by rw [kn_len]; omega) (by simp [knP]) (kn_pk t) (by omega) fun f hf => ?_
  rcases List.mem_cons.mp hf with rfl | hf
  · refine good_call (fname_sp _ (by omega)) lk ?_ fun e he => ?_
    · show (xnames m).length + 1 = _
      rw [List.length_cons, len_vars]
    · rcases List.mem_cons.mp he with rfl | he
      · exact good_tree List.mem_cons_self _ _ _
      · exact good_vars (fun x hx => List.mem_cons_of_mem _ hx) e he
  · exact good_part (mir_good t) (by rw [mir_len]; omega) (kn_nd t) kn_mem f hf
theorem made_len : (madeP j n y m).length = j.length + n.length + y.length + 3 := by
  show (knP j n y m).length + 1 = _
  rw [kn_len]
theorem made_num (t : Trio j n y m) : Num (madeP j n y m) ((j.length + n.length + y.length + 2) :: (j.length + n.length + y.length + 1) :: List.range (j.length + n.length + y.length + 1)) := by
  have h := kn_num t
  refine ⟨?_, ?_, ?_⟩
  · show fname ((joinL 0 [j, n, y]).length + 2) :: (knP j n y m).map (·.name) = _
    rw [h.nm, jl_len]
    rfl
  · rw [List.nodup_cons]
    exact ⟨by simp, h.nd⟩
  · intro k hk
    rw [made_len]
    rcases List.mem_cons.mp hk with rfl | hk
    · omega
    · have := h.lt k hk; rw [kn_len] at this; omega
theorem made_nd (t : Trio j n y m) : ((madeP j n y m).map (·.name)).Nodup := (made_num t).names (by rw [made_len]; have := t.len; omega)
theorem made_pk (t : Trio j n y m) : Pk (madeP j n y m) := by
  have hl := t.len
  obtain ⟨⟨x1, x2, x3, x4⟩, x5, x6, x7⟩ := xs_ok t.m3
  unfold madeP
  refine pk_cons ?_ (kn_pk t)
  have hm : ∀ f ∈ [madeG j n y m], f = madeG j n y m := fun f hf => List.mem_singleton.mp hf
  have hrl := jl_len j n y
  have hok : (progT (knP j n y m)).Ok := num_ok (kn_num t) (by rw [kn_len]; omega) (kn_pk t)
  have hkw : (progT (knP j n y m)).wide ≤ 100 := by
    show max (List.length ((knP j n y m).map Fn.t)) (wideL _) ≤ 100
    rw [List.length_map, kn_len]
    refine Nat.max_le.mpr ⟨by omega, wideL_le fun u hu => ?_⟩
    obtain ⟨f, hf, rfl⟩ := List.mem_map.mp hu
    have h1 := (kn_pk t).wide f hf
    have h2 := ((kn_pk t).ps f hf).2.1
    unfold Fn.t
    simp only [T.wide, wideL, wide_vars, List.length_cons, List.length_map, List.length_nil]
    omega
  refine ⟨fun f hf => ?_, fun f hf => ?_, fun f hf => ?_⟩ <;> rw [hm f hf]
  · exact ⟨x1, by show (xnames m).length ≤ 4; omega, x3, x4⟩
  · show T.Ok (E.t (.app (fname ((joinL 0 [j, n, y]).length + 1)) (.q (progT (knP j n y m)) :: vars (xnames m))))
    rw [E.t_app, List.map_cons, vars_t]
    exact ⟨fname_ok (by omega), ⟨wi.2.2.2.2.2.2, hok, trivial⟩, okL_words x3⟩
  · show T.wide (E.t (.app (fname ((joinL 0 [j, n, y]).length + 1)) (.q (progT (knP j n y m)) :: vars (xnames m)))) ≤ 100
    rw [E.t_app, List.map_cons, vars_t]
    simp only [T.wide, wideL, wide_vars, List.length_cons, List.length_map, Eq_t, List.length_nil]
    omega
theorem made_psz (t : Trio j n y m) : psz (madeP j n y m) ≤ 28300 := by
  have hs := kn_psz t
  have hm := t.m3
  have hx := xnames_len m
  unfold madeP
  rw [psz_cons, fn_size]
  have h1 : (madeG j n y m).body.t.size = 4 + (1 + psz (knP j n y m)) + m := by
    show T.size (E.t (.app (fname ((joinL 0 [j, n, y]).length + 1)) (.q (progT (knP j n y m)) :: vars (xnames m)))) = _
    rw [E.t_app, List.map_cons, vars_t, ← progT_size]
    simp only [T.size, sizeL, sizeL_words, hx, Eq_t]
    omega
  have h2 : (madeG j n y m).ps.length = m := hx
  rw [h1, h2]
  omega
theorem made_look (t : Trio j n y m) : look (madeP j n y m) (fname (j.length + n.length + y.length + 1)) = some (knG j n y m) := by
  have e : (knG j n y m).name = fname (j.length + n.length + y.length + 1) := by
    show fname (renP (mirP j n y m) 0).length = _
    rw [rm_len]
  rw [← e]
  exact look_eq (made_nd t) (List.mem_cons_of_mem _ List.mem_cons_self)
theorem made_good (t : Trio j n y m) : Good (madeP j n y m) := by
  have hl := t.len
  have hs := made_psz t
  have hx := xnames_len m
  have lk := made_look t
  refine good_num (made_num t) (by rw [made_len]; omega) (by simp [madeP]) (made_pk t) (by omega) fun f hf => ?_
  rcases List.mem_cons.mp hf with rfl | hf
  · show GoodE _ _ (.app (fname ((joinL 0 [j, n, y]).length + 1)) (.q (progT (knP j n y m)) :: vars (xnames m)))
    rw [jl_len]
    refine good_call (fname_sp _ (by omega)) lk ?_ fun e he => ?_
    · show (xnames m).length + 1 = _
      rw [List.length_cons, len_vars]
    · rcases List.mem_cons.mp he with rfl | he
      · exact .q
      · exact good_vars (fun x hx => hx) e he
  · refine good_mono (fun w k hc => ?_) _ ((kn_good t).body f hf)
    cases hs : special w with
    | some v => rw [counts_sp hs] at hc ⊢; exact hc
    | none =>
      rw [counts_fn hs, Option.map_eq_some_iff] at hc
      obtain ⟨f0, h0, rfl⟩ := hc
      obtain ⟨h1, rfl⟩ := look_mem h0
      rw [counts_fn hs, look_eq (made_nd t) (List.mem_cons_of_mem _ h1)]
      rfl
theorem made_has (t : Trio j n y m) : Has (madeP j n y m) (mirP j n y m) (uOf (mirP j n y m) 0) := has_ren (made_nd t) fun f h => List.mem_cons_of_mem _ (kn_mem f h)
/-- the chosen one, within -/
theorem made_chosen (t : Trio j n y m) {q : Prog} {k : Nat} {h : Fn} {r : Prog} (e : q = h :: r) (nd : (q.map (·.name)).Nodup) (hq : Has (mirP j n y m) q (uOf q k)) (hf : Fresh (uOf q k)) :
    Has (madeP j n y m) q (fun g => uOf (mirP j n y m) 0 (uOf q k g)) ∧ look (madeP j n y m) (uOf (mirP j n y m) 0 (fname k)) = some ⟨uOf (mirP j n y m) 0 (fname k), h.ps, h.body.ren fun g => uOf (mirP j n y m) 0 (uOf q k g)⟩ := by
  have hh := (made_has t).comp hq hf
  refine ⟨hh, ?_⟩
  have h1 : q[0]? = some h := by rw [e]; rfl
  have h2 : uOf q k h.name = fname k := (uOf_at nd k h1).trans (congrArg fname (Nat.add_zero k))
  have h3 := hh h.name h (look_eq nd (by rw [e]; exact List.mem_cons_self))
  simp only [h2] at h3
  exact h3
theorem mir_runs (t : Trio j n y m) {jt : T} (hj : j = [⟨"claim", ["p"], .q jt⟩]) {q : Prog} (hq : (jt = nil ∧ q = n) ∨ (jt ≠ nil ∧ q = y)) {h : Fn} {r : Prog} (e : q = h :: r) {ts : List T} (hts : ts.length = m) {mm s : Nat} {v : T}
    (hr : Runs q (startM h ts) mm v s) : ∃ M' s', Runs (madeP j n y m) (startM (madeG j n y m) ts) M' v s' ∧ s' ≤ s + 50 ∧ M' ≤ mm + 100 := by
  have hl := t.len
  have hm := t.m3
  obtain ⟨⟨x1, x2, x3, x4⟩, x5, x6, x7⟩ := xs_ok t.m3
  have hxl := xnames_len m
  obtain ⟨hasj, hasn, hasy⟩ := mir_has t
  obtain ⟨fj, fn, fy⟩ := mir_fresh t
  have f2 : Fresh (uOf (mirP j n y m) 0) := uOf_fresh (by rw [mir_len]; omega)
  -- the chosen one
  obtain ⟨k, hk, hqk, hfk, ndq, hpl⟩ : ∃ k, ((jt = nil ∧ k = j.length) ∨ (jt ≠ nil ∧ k = j.length + n.length)) ∧ Has (mirP j n y m) q (uOf q k) ∧ Fresh (uOf q k) ∧ (q.map (·.name)).Nodup ∧ h.ps.length = m := by
    rcases hq with ⟨h1, rfl⟩ | ⟨h1, rfl⟩
    · obtain ⟨h', r', e', l'⟩ := t.hn
      rw [e'] at e
      cases e
      exact ⟨_, .inl ⟨h1, rfl⟩, hasn, fn, t.gn.nd, l'⟩
    · obtain ⟨h', r', e', l'⟩ := t.hy
      rw [e'] at e
      cases e
      exact ⟨_, .inr ⟨h1, rfl⟩, hasy, fy, t.gy.nd, l'⟩
  obtain ⟨hasq, lkq⟩ := made_chosen t e ndq hqk hfk
  obtain ⟨_, lkj⟩ := made_chosen t hj t.gj.nd hasj fj
  have lk0 := head_has rfl (mir_nd t) (made_has t)
  have lk1 := made_look t
  -- the parameters' values
  have vx : ∀ i x u, (xnames m)[i]? = some x → ts[i]? = some u → ((xnames m).zip ts).lookup x = some u := fun i x u h1 h2 => lookup_zip x1 h1 h2
  have vs : ∀ S : T, List.lookup ("s" : Str) ((("s" : Str) :: xnames m).zip (S :: ts)) = some S := fun S => lookup_zip (i := 0) x5 rfl rfl
  have vsx : ∀ (S : T) i x u, (xnames m)[i]? = some x → ts[i]? = some u → ((("s" : Str) :: xnames m).zip (S :: ts)).lookup x = some u := fun S i x u h1 h2 => lookup_zip (i := i + 1) x5 (by simpa using h1) (by simpa using h2)
  have hxt : (xnames m).length = ts.length := by rw [hxl, hts]
  -- made, knowing
  have g1 : Goes (madeP j n y m) ⟨[.ev (.app (fname (j.length + n.length + y.length + 1)) (.q (progT (knP j n y m)) :: vars (xnames m))) ((xnames m).zip ts)], [], 0⟩ _ _ :=
    goes_call (fname_sp _ (by omega)) lk1 (.cons .q (sims_vars hxt vx)) (by show (progT (knP j n y m) :: ts).length = (xnames m).length + 1; rw [List.length_cons, hxt]) [] [] 0
  obtain ⟨V, hV⟩ := sim_tree (vs (progT (knP j n y m))) (fname (renP (mirP j n y m) 0).length) ((renP (mirP j n y m) 0).length + 1) m
  have g2 := goes_call (fname_sp 0 (by omega)) lk0 (.cons hV (sims_vars hxt (vsx _))) (by show (V :: ts).length = (xnames m).length + 1; rw [List.length_cons, hxt]) [] [] (0 + 1 + (1 + (xnames m).length))
  have g12 := g1.trans g2
  clear g1 g2
  -- the mirror's own body
  have eb : E.ren (uOf (mirP j n y m) 0) (.app sIf [.app (fname 0) [.v "s"], .app (fname (j.length + n.length)) (vars (xnames m)), .app (fname j.length) (vars (xnames m))]) =
      .app sIf [.app (uOf (mirP j n y m) 0 (fname 0)) [.v "s"], .app (uOf (mirP j n y m) 0 (fname (j.length + n.length))) (vars (xnames m)), .app (uOf (mirP j n y m) 0 (fname j.length)) (vars (xnames m))] := by
    have ev : ∀ u : Str → Str, (vars (xnames m)).map (E.ren u) = vars (xnames m) := fun u => by rw [List.map_map]; rfl
    have e1 := fname_sp 0 (by omega)
    have e2 := fname_sp j.length (by omega)
    have e3 := fname_sp (j.length + n.length) (by omega)
    rw [renE_app, if_pos sp_if]
    simp only [List.map_cons, List.map_nil, renE_app, ev, e1, e2, e3]
    rfl
  have g3 : Goes (madeP j n y m) _ _ _ := .one (step_if (p := madeP j n y m) (.app (uOf (mirP j n y m) 0 (fname 0)) [.v "s"]) (.app (uOf (mirP j n y m) 0 (fname (j.length + n.length))) (vars (xnames m))) (.app (uOf (mirP j n y m) 0 (fname j.length)) (vars (xnames m)))
    ((("s" : Str) :: xnames m).zip (V :: ts)) [] [] (0 + 1 + (1 + (xnames m).length) + 1 + (17 + (xnames m).length)))
  have g123 := g12.trans (by
    show Goes (madeP j n y m) ⟨[.ev (E.ren (uOf (mirP j n y m) 0) (.app sIf [.app (fname 0) [.v "s"], .app (fname (j.length + n.length)) (vars (xnames m)), .app (fname j.length) (vars (xnames m))])) ((("s" : Str) :: xnames m).zip (V :: ts))], [], _⟩ _ _
    rw [eb]
    exact g3)
  clear g12 g3
  -- the judge
  have g4 := goes_call (p := madeP j n y m) (f2 (fname 0)) lkj (.cons (.v (vs V)) .nil) (by rfl) [.br (.app (uOf (mirP j n y m) 0 (fname (j.length + n.length))) (vars (xnames m))) (.app (uOf (mirP j n y m) 0 (fname j.length)) (vars (xnames m))) ((("s" : Str) :: xnames m).zip (V :: ts))] []
    (0 + 1 + (1 + (xnames m).length) + 1 + (17 + (xnames m).length) + 1)
  have g14 := g123.trans g4
  clear g123 g4
  generalize hn1 : 0 + 1 + (1 + (xnames m).length) + 1 + (17 + (xnames m).length) + 1 + 1 + (1 + 0) = n1 at g14
  have g5 : Goes (madeP j n y m) ⟨[.ev (.q jt) ((["p"] : List Str).zip [V]), .br (.app (uOf (mirP j n y m) 0 (fname (j.length + n.length))) (vars (xnames m))) (.app (uOf (mirP j n y m) 0 (fname j.length)) (vars (xnames m))) ((("s" : Str) :: xnames m).zip (V :: ts))], [], n1⟩ 2
      ⟨[.ev (.app (uOf (mirP j n y m) 0 (fname k)) (vars (xnames m))) ((("s" : Str) :: xnames m).zip (V :: ts))], [], n1 + 1⟩ := by
    refine .go (b := ⟨[.br (.app (uOf (mirP j n y m) 0 (fname (j.length + n.length))) (vars (xnames m))) (.app (uOf (mirP j n y m) 0 (fname j.length)) (vars (xnames m))) ((("s" : Str) :: xnames m).zip (V :: ts))], [jt], n1 + 1⟩) rfl (.one ?_)
    rcases hk with ⟨h1, rfl⟩ | ⟨h1, rfl⟩
    · simp only [step, if_pos h1]
    · simp only [step, if_neg h1]
  have g15 := g14.trans g5
  clear g14 g5
  have g6 := goes_call (p := madeP j n y m) (f2 (fname k)) lkq (sims_vars hxt (vsx V)) (by show ts.length = h.ps.length; rw [hpl, hts]) [] [] (n1 + 1)
  have g16 := g15.trans g6
  clear g15 g6
  have g7 := goes_within hasq (fun g => f2 _) [] [] (n1 + 1 + 1 + (xnames m).length) hr
  have e7 : (startM h ts).within (fun g => uOf (mirP j n y m) 0 (uOf q k g)) [] [] (n1 + 1 + 1 + (xnames m).length) = ⟨[.ev (h.body.ren fun g => uOf (mirP j n y m) 0 (uOf q k g)) (h.ps.zip ts)], [], n1 + 1 + 1 + (xnames m).length⟩ := by
    simp [M.within, startM, Task.ren]
  rw [e7] at g7
  have g := g16.trans g7
  have hrun := g.runs .fin
  have est : startM (madeG j n y m) ts = ⟨[.ev (.app (fname (j.length + n.length + y.length + 1)) (.q (progT (knP j n y m)) :: vars (xnames m))) ((xnames m).zip ts)], [], 0⟩ := by
    unfold startM madeG
    rw [jl_len]
  rw [est]
  exact ⟨_, _, hrun, by omega, by omega⟩
end
end K46
/-! the law's run. -/
namespace K46
open PySem PySem.Spec PyProof.Rows L2

def EnvL (K : PySem.W.Frag) (H : Hp) (d : Addr) (r : List (Str × T)) : Prop := ∃ kvs, H d = some (.dK kvs) ∧ ∀ x t, r.lookup x = some t → ∃ y, valV kvs (.inr x) = some y ∧ Rep K H t y
def TaskL (K : PySem.W.Frag) (H : Hp) : Task → V → Prop
  | .ev e r, v => ∃ (b d : Addr) (y : V), v = .ref b ∧ SqT K H b [.str "eval", y, .ref d] ∧ Rep K H e.t y ∧ EnvL K H d r ∧ e.t.wide ≤ 100
  | .br x z r, v => ∃ (b d : Addr) (y1 y2 : V), v = .ref b ∧ SqT K H b [.str "if", y1, y2, .ref d] ∧ Rep K H x.t y1 ∧ Rep K H z.t y2 ∧ EnvL K H d r ∧ x.t.wide ≤ 100 ∧ z.t.wide ≤ 100
  | .op w, v => ∃ b : Addr, v = .ref b ∧ SqT K H b [.str "do", .str w]
  | .call f k, v => ∃ b : Addr, v = .ref b ∧ SqT K H b [.str "call", .str f]
def BodL (K : PySem.W.Frag) (H : Hp) (bd : Addr) (q : Prog) : Prop := ∃ kvs : List (Key × V), H bd = some (.dK kvs) ∧ kvs.length ≤ q.length ∧ ∀ fn ∈ q, ∃ (a : Addr) (pa yb : V), valV kvs (.inr fn.name) = some (.ref a) ∧ SqT K H a [pa, yb] ∧ Rep K H (.l (fn.ps.map T.w)) pa ∧ Rep K H fn.body.t yb
theorem EnvL.stay {K : PySem.W.Frag} {H H' : Hp} {d : Addr} {r : List (Str × T)} (h : EnvL K H d r) (y : Stay H H') : EnvL K H' d r := by
  obtain ⟨kvs, h1, h2⟩ := h
  exact ⟨kvs, y.dks _ _ h1, fun x t hx => let ⟨v, a, b⟩ := h2 x t hx; ⟨v, a, b.tups y.tups⟩⟩
theorem TaskL.stay {K : PySem.W.Frag} {H H' : Hp} {t : Task} {v : V} (h : TaskL K H t v) (y : Stay H H') : TaskL K H' t v := by
  cases t with
  | ev e r => obtain ⟨b, d, v1, e1, h1, h2, h3, h4⟩ := h; exact ⟨b, d, v1, e1, h1.tups y.tups, h2.tups y.tups, h3.stay y, h4⟩
  | br a c r => obtain ⟨b, d, v1, v2, e1, h1, h2, h3, h4, h5⟩ := h; exact ⟨b, d, v1, v2, e1, h1.tups y.tups, h2.tups y.tups, h3.tups y.tups, h4.stay y, h5⟩
  | op w => obtain ⟨b, e1, h1⟩ := h; exact ⟨b, e1, h1.tups y.tups⟩
  | call f k => obtain ⟨b, e1, h1⟩ := h; exact ⟨b, e1, h1.tups y.tups⟩
theorem tasksL_stay {K : PySem.W.Frag} {H H' : Hp} (y : Stay H H') : ∀ {ts : List Task} {vs : List V}, Paired (TaskL K H) ts vs → Paired (TaskL K H') ts vs
  | _, _, .nil => .nil
  | _, _, .cons a t => .cons (a.stay y) (tasksL_stay y t)
theorem BodL.stay {K : PySem.W.Frag} {H H' : Hp} {bd : Addr} {q : Prog} (h : BodL K H bd q) (y : Stay H H') : BodL K H' bd q := by
  obtain ⟨kvs, h1, h2, h3⟩ := h
  exact ⟨kvs, y.dks _ _ h1, h2, fun fn hf => let ⟨a, pa, yb, q1, q2, q3, q4⟩ := h3 fn hf; ⟨a, pa, yb, q1, q2.tups y.tups, q3.tups y.tups, q4.tups y.tups⟩⟩
/-- a list changes -/
theorem Stay.lst {H : Hp} {p : Addr} {xs : List V} {o : HO} (h : H p = some (.lst xs)) : Stay H (upd H p o) :=
  ⟨Tups.upd h trivial, fun b kvs e => by rw [upd_ne (fun z => by rw [z, h] at e; cases e)]; exact e⟩
/-- a step's lengths -/
theorem step_lens {p : Prog} {a b : M} (h : step p a = some b) (hw : ∀ e r k, a.todo = .ev e r :: k → e.t.wide ≤ 100) : b.todo.length ≤ a.todo.length + 101 ∧ b.found.length ≤ a.found.length + 1 := by
  obtain ⟨todo, found, n⟩ := a
  cases todo with
  | nil => cases h
  | cons tk todo =>
    cases tk with
    | ev e r =>
      have hwd := hw e r todo rfl
      cases e with
      | v x => simp only [step, Option.map_eq_some_iff] at h; obtain ⟨_, _, rfl⟩ := h; exact ⟨by simp only [List.length_cons]; omega, by simp only [List.length_cons]; omega⟩
      | q t => simp only [step, Option.some.injEq] at h; subst h; exact ⟨by simp only [List.length_cons]; omega, by simp only [List.length_cons]; omega⟩
      | app x es =>
        have hesl := items_length (E.app x es).t
        rw [E.t_app] at hesl hwd
        simp only [tItems, List.length_cons, List.length_map] at hesl
        simp only [step] at h
        split at h
        · split at h
          · cases h; exact ⟨by simp only [List.length_cons]; omega, by simp only; omega⟩
          · cases h
        · split at h
          · cases h
          · cases h; exact ⟨by simp only [List.length_append, List.length_map, List.length_cons]; omega, by simp only; omega⟩
    | br x y r =>
      cases found with
      | nil => cases h
      | cons t f => simp only [step, Option.some.injEq] at h; subst h; exact ⟨by simp only [List.length_cons]; omega, by simp only [List.length_cons]; omega⟩
    | op x =>
      simp only [step, Option.map_eq_some_iff] at h
      obtain ⟨f', hop, rfl⟩ := h
      obtain ⟨t0, f0, rfl, hcs⟩ := doOp_cases hop
      refine ⟨by simp only [List.length_cons]; omega, ?_⟩
      rcases hcs with ⟨_, rfl⟩ | ⟨_, rfl⟩ | ⟨_, rfl⟩ | ⟨b0, g, rfl, ⟨_, rfl⟩ | ⟨_, rfl⟩⟩ <;> simp only [List.length_cons] <;> omega
    | call g n3 =>
      simp only [step] at h
      cases e : look p g with
      | none => rw [e] at h; cases h
      | some fn =>
        rw [e] at h
        have h : (if n3 = fn.ps.length ∧ n3 ≤ found.length then some (⟨.ev fn.body (fn.ps.zip (found.take n3).reverse) :: todo, found.drop n3, n⟩ : M) else none) = some b := h
        have hcond : n3 = fn.ps.length ∧ n3 ≤ found.length := Classical.byContradiction fun hh => by rw [if_neg hh] at h; cases h
        rw [if_pos hcond] at h
        cases h
        exact ⟨by simp only [List.length_cons]; omega, by simp only [List.length_drop]; omega⟩
structure LAt (K : PySem.W.Frag) (G : Str → List Nat → Nat → Prop) (g : Fn) (p : Prog) (ts : List T) (lim : Nat) (H H' : Hp) (bd tl fl : Addr) (i : Nat) (a : M) : Prop where
  sm : Same H H'
  todo : ∃ tvs : List V, H' tl = some (.lst tvs.reverse) ∧ Paired (TaskL K H') a.todo tvs
  found : ∃ us : List V, H' fl = some (.lst us.reverse) ∧ Reps K H' a.found us
  bod : BodL K H' bd (g :: p)
  ty : StOk 60 G i a
  runs : ∀ m t n, Runs (g :: p) a m t n → Runs (g :: p) (startM g ts) (m + i) t n
  ht : H tl = none
  hf : H fl = none
  ne : tl ≠ fl
  tlen : a.todo.length ≤ 1 + 101 * i
  flen : a.found.length ≤ i
  slim : a.steps ≤ lim
/-- the lists and the functions, without the types -/
structure LC (K : PySem.W.Frag) (q : Prog) (H H' : Hp) (bd tl fl : Addr) (todo : List Task) (found : List T) : Prop where
  sm : Same H H'
  todo : ∃ tvs : List V, H' tl = some (.lst tvs.reverse) ∧ Paired (TaskL K H') todo tvs
  found : ∃ us : List V, H' fl = some (.lst us.reverse) ∧ Reps K H' found us
  bod : BodL K H' bd q
  ht : H tl = none
  hf : H fl = none
  ne : tl ≠ fl
theorem LC.same {K : PySem.W.Frag} {q : Prog} {H H1 H2 : Hp} {bd tl fl : Addr} {todo : List Task} {found : List T} (h : LC K q H H1 bd tl fl todo found) (S : Same H1 H2) : LC K q H H2 bd tl fl todo found := by
  obtain ⟨tvs, a1, a2⟩ := h.todo
  obtain ⟨us, b1, b2⟩ := h.found
  exact ⟨h.sm.trans S, ⟨tvs, S _ _ a1, tasksL_stay (Stay.of_same S) a2⟩, ⟨us, S _ _ b1, b2.same S⟩, h.bod.stay (Stay.of_same S), h.ht, h.hf, h.ne⟩
theorem LC.push {K : PySem.W.Frag} {q : Prog} {H H1 : Hp} {bd tl fl c : Addr} {todo : List Task} {found : List T} (h : LC K q H H1 bd tl fl todo found) {tvs xs : List V} (h1 : H1 tl = some (.lst tvs.reverse)) (h2 : Paired (TaskL K H1) todo tvs) (hc : H1 c = none) {t : Task} (ht : TaskL K (upd H1 c (.tup xs)) t (.ref c)) :
    upd H1 c (.tup xs) tl = some (.lst tvs.reverse) ∧ LC K q H (upd (upd H1 c (.tup xs)) tl (.lst (tvs.reverse ++ [.ref c]))) bd tl fl (t :: todo) found ∧ Stay H1 (upd (upd H1 c (.tup xs)) tl (.lst (tvs.reverse ++ [.ref c]))) := by
  have Sc := same_upd (o := .tup xs) hc
  have g1 : upd H1 c (.tup xs) tl = some (.lst tvs.reverse) := Sc _ _ h1
  have yl : Stay (upd H1 c (.tup xs)) (upd (upd H1 c (.tup xs)) tl (.lst (tvs.reverse ++ [.ref c]))) := Stay.lst g1
  have y5 := (Stay.of_same Sc).trans yl
  obtain ⟨us, b1, b2⟩ := h.found
  exact ⟨g1, ⟨(h.sm.trans Sc).upd h.ht, ⟨.ref c :: tvs, by rw [upd_same, List.reverse_cons], .cons (ht.stay yl) (tasksL_stay y5 h2)⟩, ⟨us, by rw [upd_ne h.ne.symm]; exact Sc _ _ b1, b2.tups y5.tups⟩, h.bod.stay y5, h.ht, h.hf, h.ne⟩, y5⟩
theorem LC.pushF {K : PySem.W.Frag} {q : Prog} {H H1 : Hp} {bd tl fl : Addr} {todo : List Task} {found : List T} (h : LC K q H H1 bd tl fl todo found) {us : List V} (h1 : H1 fl = some (.lst us.reverse)) (h2 : Reps K H1 found us) {t : T} {v : V} (hv : Rep K H1 t v) :
    LC K q H (upd H1 fl (.lst (us.reverse ++ [v]))) bd tl fl todo (t :: found) := by
  have yl : Stay H1 (upd H1 fl (.lst (us.reverse ++ [v]))) := Stay.lst h1
  obtain ⟨tvs, b1, b2⟩ := h.todo
  exact ⟨h.sm.upd h.hf, ⟨tvs, by rw [upd_ne h.ne]; exact b1, tasksL_stay yl b2⟩, ⟨v :: us, by rw [upd_same, List.reverse_cons], .cons (hv.tups yl.tups) (h2.tups yl.tups)⟩, h.bod.stay yl, h.ht, h.hf, h.ne⟩
theorem rev_get {α : Type} {us : List α} {n k : Nat} {u : α} (hn : n ≤ us.length) (hk : k < n) (h : (us.take n).reverse[k]? = some u) : us.reverse[us.length - n + k]? = some u := by
  rw [List.getElem?_reverse (by omega)]
  rw [List.getElem?_reverse (by rw [List.length_take]; omega), List.length_take, List.getElem?_take, if_pos (by omega)] at h
  rw [← h]
  congr 1
  omega
theorem inV_plain5 (x : Str) : inV (.str x) [.str "same", .str "word", .str "head", .str "tail", .str "join"] = plain x := inV_plain x
theorem atI_eq {xs : List V} {i : Int} {n : Nat} {v : V} (e : i = (n : Int)) (h : xs[n]? = some v) : atI xs i = some v := by rw [e]; exact atI_nat h
theorem step_noquote {p : Prog} {es : List E} {r : List (Str × T)} {k : List Task} {f : List T} {n : Nat} : step p ⟨.ev (.app sQuote es) r :: k, f, n⟩ = none := by
  have h : ¬ sQuote = sIf := fun z => if_not_quote z.symm
  simp only [step, if_neg h, if_true]
/-- what comes of the law's run -/
def RunOut (K : PySem.W.Frag) (g : Fn) (p : Prog) (ts : List T) (lim : Nat) (H' : Hp) (r : V) : Prop :=
  (∃ (m n : Nat) (t : T) (a : Addr) (rv : V), Runs (g :: p) (startM g ts) m t n ∧ n ≤ lim ∧ m ≤ 4 * lim + 3 ∧ OkV (4 * lim + 20) 60 t ∧ r = .ref a ∧ SqT K H' a [.str "done", rv, vint n] ∧ Rep K H' t rv) ∨ ∃ a, r = .ref a ∧ SqT K H' a [.str "tired"]
def spLRun (K : PySem.W.Frag) : Sp := fun vs H Q _ => ∃ (G : Str → List Nat → Nat → Prop) (v : V) (b : Addr) (ys : List V) (g : Fn) (p : Prog) (ts : List T) (lim : Nat), vs = [v, .ref b, vint lim] ∧ Rep K H (progT (g :: p)) v ∧ H b = some (.lst ys) ∧ Reps K H ts ys ∧
  ts.length = g.ps.length ∧ Slim (g :: p) ∧ TyP 60 G (g :: p) ∧ StOk 60 G 0 (startM g ts) ∧ lim ≤ 2100 ∧ p.length ≤ 100 ∧ ∀ (H' : Hp) (r : V), Same H H' → RunOut K g p ts lim H' r → Q r H'
abbrev sLRun : Stmt := top 64
theorem sc_sLRun : FnScope ["_law_program_here", "_law_inputs", "_law_limit", "_law_bodies", "_law_name", "_law_parameters", "_law_body", "_law_names", "_law_k", "_law_todo", "_law_found", "_law_steps", "_law_turn", "_law_task", "_law_branch", "_law_one", "_law_word"] ["_law_program_here", "_law_inputs", "_law_limit"] (defScope sLRun) := ⟨rfl, rfl, rfl, by decide +kernel, rfl, by decide +kernel, by decide +kernel⟩
section
variable {P : Program} {w : World} {K : PySem.W.Frag} {mg : Str → Option Value} {base : Heap}
theorem ok_lRun {f fD : Addr} {fd fdD : FuncData} (B : Bl mg) (D : Dfn K mg "_law_run" sLRun ["_law_program_here", "_law_inputs", "_law_limit"] f fd) (DD : Dfn K mg "_law_do" sLDo ["_law_word", "_law_found"] fD fdD) (GD : FnOk P w K mg base CX0 1 fD fdD ["_law_word", "_law_found"] (spLDo K)) :
    FnOk P w K mg base CX0 2 f fd ["_law_program_here", "_law_inputs", "_law_limit"] (spLRun K) := by
  refine D.F.ok sc_sLRun (fun vs H Q XE h => ?_) (fun cdv AA outer st H vs Q XE hr h => ?_)
  · obtain ⟨G, v, b, ys, g, p, ts, lim, rfl, _⟩ := h
    rfl
  · obtain ⟨G, v, b, ys, g, p, ts, lim, rfl, hv, hb, hys, htl, hsl, hty, hst, hlim, hpl, k⟩ := h
    have nd := sc_sLRun.nd
    have hu := hu_of hr
    have hu64 := hr.units
    refine ⟨_,
      (pss_cons (ps_set (i := 3) nd rfl (.inl rfl) pe_dnewK)
      (pss_cons (ps_for PassesOwn.never rfl (pi_tup (pv 0)) (pg_tup (by rfl) (pgs_cons (pg_name (i := 4) nd rfl (.inl rfl)) (pgs_cons (pg_name (i := 5) nd rfl (.inl rfl)) (pgs_cons (pg_name (i := 6) nd rfl (.inl rfl)) pgs_nil))))
      (pss_one (ps_dput hu (pv 3) (pv 4) (pe_tup (pa_cons (pv 5) (pa_cons (pv 6) pa_nil))) rfl)))
      (pss_cons (ps_set (i := 7) nd rfl (.inl rfl) pe_dnewK)
      (pss_cons (ps_for PassesOwn.never rfl (pi_range1 (by rfl) B.range (pa_cons (pe_callB call_len_seq (by rfl) B.len PySem.boot_len (pa_cons (pv 1) pa_nil)) pa_nil)) (pg_name (i := 8) nd rfl (.inl rfl))
      (pss_one (ps_dput hu (pv 7) (pe_ix ix_tup (pe_ix ix_tup (pe_ix ix_tup (pv 0) pe_int (fun _ _ => rfl)) pe_int (fun _ _ => rfl)) (pv 8) (fun _ _ => rfl)) (pe_ix ix_list (pv 1) (pv 8) (fun _ _ => rfl)) rfl)))
      (pss_cons (ps_set (i := 9) nd rfl (.inl rfl) (pe_lst (pa_cons (pe_tup (pa_cons pe_str (pa_cons (pe_ix ix_tup (pe_ix ix_tup (pv 0) pe_int (fun _ _ => rfl)) pe_int (fun _ _ => rfl)) (pa_cons (pv 7) pa_nil)))) pa_nil)))
      (pss_cons (ps_set (i := 10) nd rfl (.inl rfl) (pe_lst pa_nil))
      (pss_cons (ps_set (i := 11) nd rfl (.inl rfl) pe_int)
      (pss_cons (ps_for PassesOwn.never rfl (pi_range1 (by rfl) B.range (pa_cons (pe_op op_add (pe_op op_mul pe_int (pv 2)) pe_int) pa_nil)) (pg_name (i := 12) nd rfl (.inl rfl))
      (pss_cons (ps_if (pt_cmpR op_eq (pe_callB call_len_seq (by rfl) B.len PySem.boot_len (pa_cons (pv 9) pa_nil)) pe_int (nomark _))
      (pss_one (ps_ret (pe_tup (pa_cons pe_str (pa_cons (pe_ix ix_list (pv 10) pe_int (fun _ _ => rfl)) (pa_cons (pv 11) pa_nil))))))
      pss_nil)
      (pss_cons (ps_set (i := 13) nd rfl (.inl rfl) (pe_bm0 PySem.F.plainAttrs_list PySem.F.slot_list_pop PySem.F.type_list_pop mt_pop (pv 9)))
      (pss_one (ps_if (pt_cmpR op_eq (pe_ix ix_tup (pv 13) pe_int (fun _ _ => rfl)) pe_str (nomark _))
      (pss_one (ps_expr (pe_bm PySem.F.plainAttrs_list PySem.F.slot_list_append PySem.F.type_list_append mt_append (pv 10) (pa_cons (pe_call GD hr (by rfl) DD.g DD.F.kp DD.b .nil pass0 (pa_cons (pe_ix ix_tup (pv 13) pe_int (fun _ _ => rfl)) (pa_cons (pv 10) pa_nil))) pa_nil))))
      (pss_one (ps_if (pt_cmpR op_eq (pe_ix ix_tup (pv 13) pe_int (fun _ _ => rfl)) pe_str (nomark _))
      (pss_cons (ps_set (i := 14) nd rfl (.inl rfl) (pe_ix ix_tup (pv 13) pe_int (fun _ _ => rfl)))
      (pss_cons (ps_if (pt_cmpR (op_eqD hu64) (pe_bm0 PySem.F.plainAttrs_list PySem.F.slot_list_pop PySem.F.type_list_pop mt_pop (pv 10)) (pe_tup pa_nil) (nomark _))
      (pss_one (ps_set (i := 14) nd rfl (.inl rfl) (pe_ix ix_tup (pv 13) pe_int (fun _ _ => rfl))))
      pss_nil)
      (pss_one (ps_expr (pe_bm PySem.F.plainAttrs_list PySem.F.slot_list_append PySem.F.type_list_append mt_append (pv 9) (pa_cons (pe_tup (pa_cons pe_str (pa_cons (pv 14) (pa_cons (pe_ix ix_tup (pv 13) pe_int (fun _ _ => rfl)) pa_nil)))) pa_nil))))))
      (pss_one (ps_if (pt_cmpR op_eq (pe_ix ix_tup (pv 13) pe_int (fun _ _ => rfl)) pe_str (nomark _))
      (pss_cons (ps_asg (pe_dget hu (pv 3) (pe_ix ix_tup (pv 13) pe_int (fun _ _ => rfl)) (fun _ _ => rfl)) (pg_tup (by rfl) (pgs_cons (pg_name (i := 5) nd rfl (.inl rfl)) (pgs_cons (pg_name (i := 6) nd rfl (.inl rfl)) pgs_nil))))
      (pss_cons (ps_set (i := 7) nd rfl (.inl rfl) pe_dnewK)
      (pss_cons (ps_for PassesOwn.never rfl (pi_range1 (by rfl) B.range (pa_cons (pe_callB call_len_seq (by rfl) B.len PySem.boot_len (pa_cons (pv 5) pa_nil)) pa_nil)) (pg_name (i := 8) nd rfl (.inl rfl))
      (pss_one (ps_dput hu (pv 7) (pe_ix ix_tup (pv 5) (pv 8) (fun _ _ => rfl)) (pe_ix ix_list (pv 10) (pe_op op_add (pe_op op_sub (pe_callB call_len_seq (by rfl) B.len PySem.boot_len (pa_cons (pv 10) pa_nil)) (pe_callB call_len_seq (by rfl) B.len PySem.boot_len (pa_cons (pv 5) pa_nil))) (pv 8)) (fun _ _ => rfl)) rfl)))
      (pss_cons (ps_set (i := 10) nd rfl (.inl rfl) (pe_slice sl_list (pv 10) po_none (po_some (pe_op op_sub (pe_callB call_len_seq (by rfl) B.len PySem.boot_len (pa_cons (pv 10) pa_nil)) (pe_callB call_len_seq (by rfl) B.len PySem.boot_len (pa_cons (pv 5) pa_nil))))))
      (pss_one (ps_expr (pe_bm PySem.F.plainAttrs_list PySem.F.slot_list_append PySem.F.type_list_append mt_append (pv 9) (pa_cons (pe_tup (pa_cons pe_str (pa_cons (pv 6) (pa_cons (pv 7) pa_nil)))) pa_nil))))))))
      (pss_cons (ps_if (pt_cmpR op_eq (pv 11) (pv 2) (nomark _))
      (pss_one (ps_ret (pe_tup (pa_cons pe_str pa_nil))))
      pss_nil)
      (pss_cons (ps_set (i := 11) nd rfl (.inl rfl) (pe_op op_add (pv 11) pe_int))
      (pss_cons (ps_par (i := 15) (j := 7) (by rfl) nd rfl rfl (by decide) rfl rfl (pa_cons (pe_ix ix_tup (pv 13) pe_int (fun _ _ => rfl)) (pa_cons (pe_ix ix_tup (pv 13) pe_int (fun _ _ => rfl)) pa_nil)) (by rfl))
      (pss_one (ps_if (pt_val (pe_callB call_isStr (by rfl) B.isinstance PyProof.Rows.boot_isinstance (pa_cons (pv 15) (pa_cons (pe_bltn (v := .ty "str") (by rfl) B.str PyProof.Rows.boot_str rfl) pa_nil))))
      (pss_one (ps_expr (pe_bm PySem.F.plainAttrs_list PySem.F.slot_list_append PySem.F.type_list_append mt_append (pv 10) (pa_cons (pe_dget hu (pv 7) (pv 15) (fun _ _ => rfl)) pa_nil))))
      (pss_one (ps_if (pt_cmpR op_eq (pe_ix ix_tup (pv 15) pe_int (fun _ _ => rfl)) pe_str (nomark _))
      (pss_one (ps_expr (pe_bm PySem.F.plainAttrs_list PySem.F.slot_list_append PySem.F.type_list_append mt_append (pv 10) (pa_cons (pe_ix ix_tup (pv 15) pe_int (fun _ _ => rfl)) pa_nil))))
      (pss_one (ps_if (pt_cmpR op_eq (pe_ix ix_tup (pv 15) pe_int (fun _ _ => rfl)) pe_str (nomark _))
      (pss_cons (ps_expr (pe_bm PySem.F.plainAttrs_list PySem.F.slot_list_append PySem.F.type_list_append mt_append (pv 9) (pa_cons (pe_tup (pa_cons pe_str (pa_cons (pe_ix ix_tup (pv 15) pe_int (fun _ _ => rfl)) (pa_cons (pe_ix ix_tup (pv 15) pe_int (fun _ _ => rfl)) (pa_cons (pv 7) pa_nil))))) pa_nil)))
      (pss_one (ps_expr (pe_bm PySem.F.plainAttrs_list PySem.F.slot_list_append PySem.F.type_list_append mt_append (pv 9) (pa_cons (pe_tup (pa_cons pe_str (pa_cons (pe_ix ix_tup (pv 15) pe_int (fun _ _ => rfl)) (pa_cons (pv 7) pa_nil)))) pa_nil)))))
      (pss_cons (ps_set (i := 16) nd rfl (.inl rfl) pe_str)
      (pss_cons (ps_if (pt_cmpR op_in_seq (pe_ix ix_tup (pv 15) pe_int (fun _ _ => rfl)) (pe_lst (pa_cons pe_str (pa_cons pe_str (pa_cons pe_str (pa_cons pe_str (pa_cons pe_str pa_nil)))))) (by rfl))
      (pss_one (ps_set (i := 16) nd rfl (.inl rfl) pe_str))
      pss_nil)
      (pss_cons (ps_expr (pe_bm PySem.F.plainAttrs_list PySem.F.slot_list_append PySem.F.type_list_append mt_append (pv 9) (pa_cons (pe_tup (pa_cons (pv 16) (pa_cons (pe_ix ix_tup (pv 15) pe_int (fun _ _ => rfl)) pa_nil))) pa_nil)))
      (pss_one (ps_for PassesOwn.never rfl (pi_range1 (by rfl) B.range (pa_cons (pe_op op_sub (pe_callB call_len_seq (by rfl) B.len PySem.boot_len (pa_cons (pv 15) pa_nil)) pe_int) pa_nil)) (pg_name (i := 8) nd rfl (.inl rfl))
      (pss_one (ps_expr (pe_bm PySem.F.plainAttrs_list PySem.F.slot_list_append PySem.F.type_list_append mt_append (pv 9) (pa_cons (pe_tup (pa_cons pe_str (pa_cons (pe_ix ix_tup (pv 15) (pe_op op_sub (pe_op op_sub (pe_callB call_len_seq (by rfl) B.len PySem.boot_len (pa_cons (pv 15) pa_nil)) pe_int) (pv 8)) (fun _ _ => rfl)) (pa_cons (pv 7) pa_nil)))) pa_nil)))))))))))))))))))))))))))
      (pss_one (ps_ret (pe_tup (pa_cons pe_str pa_nil))))))))))))
      , ?_⟩
    have hs : sizeLine = 16777216 := rfl
    refine fun bd hbd => ?_
    obtain ⟨va, vxs, rfl, hvT, hvx⟩ := (show Rep K H (.l ((g :: p).map Fn.t)) v from hv).l_eq
    have hvl := hvx.length
    rw [List.length_map] at hvl
    have hbd0 := hbd
    have S1 := same_upd (o := .dK []) hbd
    refine ⟨_, rfl, va, rfl, ⟨vxs, hvT.same S1⟩, ?_⟩
    refine for_tup (xs := vxs) (fun i σ' H' => ∃ x4 x5 x6 : Option V, σ' = [some (.ref va), some (.ref b), some (vint lim), some (.ref bd), x4, x5, x6, none, none, none, none, none, none, none, none, none, none] ∧ Same H H' ∧ BodL K H' bd ((g :: p).take i)) ?_ ?_ ?_ ?_
    · exact ⟨_, _, _, rfl, S1, [], upd_same, Nat.zero_le _, fun _ h => nomatch h⟩
    · rintro i σ' H' _ ⟨x4, x5, x6, rfl, S, _⟩
      exact hvT.same S
    · rintro i x σ' H' hx ⟨x4, x5, x6, rfl, S, kvs, c1, c2, c3⟩
      obtain ⟨t, ht, hyr⟩ := hvx.getV hx
      rw [List.getElem?_map, Option.map_eq_some_iff] at ht
      obtain ⟨fn, hfn, rfl⟩ := ht
      have hfi := (List.getElem?_eq_some_iff.mp hfn).1
      rw [List.length_cons] at hfi
      obtain ⟨ya, yys, rfl, hyT, hyy⟩ := (hyr.same S).l_eq
      obtain ⟨y0, r0, rfl, e0, hyy⟩ := hyy.cons_eq
      obtain ⟨y1, r1, rfl, e1, hyy⟩ := hyy.cons_eq
      obtain ⟨y2, r2, rfl, e2, hyy⟩ := hyy.cons_eq
      have := hyy.nil_eq
      subst this
      have e0 := e0.w_eq
      subst e0
      refine ⟨ya, _, rfl, hyT, rfl, _, _, rfl, _, _, rfl, _, _, rfl, rfl, ?_⟩
      refine ⟨_, rfl, _, rfl, (by show 2 ≤ sizeLine; decide), fun c hc => ?_⟩
      have Sc := same_upd (o := .tup [y1, y2]) hc
      have c1' := Sc _ _ c1
      rw [List.length_take, List.length_cons] at c2
      refine ⟨_, rfl, _, rfl, bd, _, rfl, DPut.k (k := .inr fn.name) c1' (by omega), ?_⟩
      have tt : Tups (upd H' c (.tup [y1, y2])) (upd (upd H' c (.tup [y1, y2])) bd (.dK (putK kvs (.inr fn.name) (.ref c)))) := Tups.upd c1' trivial
      refine ⟨_, _, _, rfl, (S.upd (S.free hc)).upd hbd, _, upd_same, ?_, fun fn' hf' => ?_⟩
      · have := length_putK kvs (.inr fn.name) (V.ref c)
        rw [List.length_take, List.length_cons]
        omega
      · rw [List.take_succ, hfn] at hf'
        rw [valV_put]
        by_cases e : fn'.name = fn.name
        · have : fn' = fn := by
            have hm' : fn' ∈ g :: p := by
              rcases List.mem_append.mp hf' with h | h
              · exact List.mem_of_mem_take h
              · rw [List.mem_singleton.mp h]; exact List.mem_of_getElem? hfn
            have l1 := look_eq hsl.nd hm'
            have l2 := look_eq hsl.nd (List.mem_of_getElem? hfn)
            rw [e, l2] at l1
            exact (Option.some.inj l1).symm
          subst this
          exact ⟨c, y1, y2, if_pos rfl, (SqT.of upd_same).tups tt, (e1.same Sc).tups tt, (e2.same Sc).tups tt⟩
        · rcases List.mem_append.mp hf' with h | h
          · obtain ⟨a, pa, yb, q1, q2, q3, q4⟩ := c3 fn' h
            exact ⟨a, pa, yb, by rw [if_neg (fun z => e (Sum.inr.inj z))]; exact q1, (q2.same Sc).tups tt, (q3.same Sc).tups tt, (q4.same Sc).tups tt⟩
          · exact absurd (by rw [List.mem_singleton.mp h]) e
    · rintro σ' H1 ⟨x4, x5, x6, rfl, S, c1⟩
      rw [hvl, List.take_length] at c1
      refine fun nm hnm => ?_
      have Sn := same_upd (o := .dK []) hnm
      have hnm0 : H nm = none := S.free hnm
      have hb1 := S _ _ hb
      have hysl := hys.length
      obtain ⟨gv, vxs', rfl, hgv, _⟩ := hvx.cons_eq
      obtain ⟨ga, gxs, rfl, hgT, hgx⟩ := hgv.l_eq
      obtain ⟨g0, r0, rfl, e0, hgx⟩ := hgx.cons_eq
      obtain ⟨g1, r1, rfl, e1, hgx⟩ := hgx.cons_eq
      obtain ⟨g2, r2, rfl, e2, hgx⟩ := hgx.cons_eq
      obtain ⟨pa, pxs, rfl, hpT, hpx⟩ := e1.l_eq
      have hpx := hpx.words_eq
      subst hpx
      have hg12 := hsl.le g List.mem_cons_self
      have hgnd := hsl.ps g List.mem_cons_self
      have hcB : BodL K (upd H1 nm (.dK [])) bd (g :: p) := c1.stay (Stay.of_same Sn)
      refine ⟨_, rfl, b, _, rfl, .inl (SqL.of (Sn _ _ hb1)), _, rfl, by omega, by omega, ?_⟩
      refine for_range (lo := 0) (n := ys.length) (fun i σ' H' => ∃ (kvs : List (Key × V)) (x8 : Option V), σ' = [some (.ref va), some (.ref b), some (vint lim), some (.ref bd), x4, x5, x6, some (.ref nm), x8, none, none, none, none, none, none, none, none] ∧ Same H H' ∧ BodL K H' bd (g :: p) ∧ H' nm = some (.dK kvs) ∧ kvs.length ≤ i ∧
        ∀ j q y, j < i → g.ps[j]? = some q → ys[j]? = some y → valV kvs (.inr q) = some y) ?_ ?_ ?_
      · exact ⟨[], _, rfl, S.trans Sn, hcB, upd_same, Nat.zero_le _, fun _ _ _ h => absurd h (Nat.not_lt_zero _)⟩
      · rintro i σ' H' hi ⟨kvs, x8, rfl, d1, d2, d3, d4, d5⟩
        rw [Int.zero_add]
        obtain ⟨q, hq⟩ : ∃ q, g.ps[i]? = some q := ⟨_, List.getElem?_eq_getElem (by omega)⟩
        obtain ⟨y, hy⟩ : ∃ y, ys[i]? = some y := ⟨_, List.getElem?_eq_getElem hi⟩
        have nbn : bd ≠ nm := fun z => by
          obtain ⟨kb, a1, a2, a3⟩ := d2
          obtain ⟨kb0, b1, _⟩ := c1
          rw [z, hnm] at b1
          cases b1
        refine ⟨_, rfl, _, rfl, b, _, _, _, rfl, rfl, SqL.of (d1 _ _ hb), atI_nat hy, _, rfl, _, rfl, va, _, _, _, rfl, rfl, hvT.same d1, at0, ga, _, _, _, rfl, rfl, hgT.same d1, at1, _, rfl, pa, _, _, _, rfl, rfl, hpT.same d1, atI_nat (v := .str q) (by rw [List.getElem?_map, hq]; rfl), nm, _, rfl, DPut.k (k := .inr q) d3 (by omega), ?_⟩
        refine ⟨_, _, rfl, d1.upd hnm0, ?_, upd_same, Nat.le_trans (length_putK _ _ _) (by omega), fun j q' y' hj hq' hy' => ?_⟩
        · obtain ⟨kb, a1, a2, a3⟩ := d2
          have tt : Tups H' (upd H' nm (.dK (putK kvs (.inr q) y))) := Tups.upd d3 trivial
          exact ⟨kb, by rw [upd_ne nbn]; exact a1, a2, fun fn hf => let ⟨a, pa, yb, q1, q2, q3, q4⟩ := a3 fn hf; ⟨a, pa, yb, q1, q2.tups tt, q3.tups tt, q4.tups tt⟩⟩
        · rw [valV_put]
          by_cases e : j = i
          · subst e
            rw [hq] at hq'
            rw [hy] at hy'
            cases hq'
            cases hy'
            rw [if_pos rfl]
          · rw [if_neg, d5 j q' y' (by omega) hq' hy']
            intro z
            have z := Sum.inr.inj z
            subst z
            exact e (nodup_get hgnd hq' hq)
      · rintro σ' H2 ⟨kvs, x8, rfl, d1, d2, d3, d4, d5⟩
        have henv : EnvL K H2 nm (g.ps.zip ts) := ⟨kvs, d3, fun x t hx => by
          obtain ⟨j, q1, q2⟩ := zip_lookup hx
          obtain ⟨y, hy, hyr⟩ := (hys.same d1).get q2
          exact ⟨y, d5 j x y (List.getElem?_eq_some_iff.mp hy).1 q1 hy, hyr⟩⟩
        refine ⟨_, rfl, va, _, _, _, rfl, rfl, hvT.same d1, at0, ga, _, _, _, rfl, rfl, hgT.same d1, at2, _, rfl, (by show 3 ≤ sizeLine; decide), fun c hc => ⟨(by show 1 ≤ sizeLine; decide), fun tl htl => ?_⟩⟩
        refine ⟨(by show 0 ≤ sizeLine; decide), fun fl hfl => ?_⟩
        have Sc := same_upd (o := .tup [.str "eval", g2, .ref nm]) hc
        have St := same_upd (o := .lst [.ref c]) htl
        have Sf := same_upd (o := .lst []) hfl
        have S3 := (Sc.trans St).trans Sf
        have htl2 : H2 tl = none := Sc.free htl
        have hfl2 : H2 fl = none := (Sc.trans St).free hfl
        have em4 : (4 : Int) * ((lim : Nat) : Int) + 4 = ((4 * lim + 4 : Nat) : Int) := by omega
        refine ⟨_, rfl, _, _, rfl, rfl, .inl ⟨by decide, by decide⟩, _, _, rfl, rfl, ?_⟩
        refine ⟨((4 * lim + 4 : Nat) : Int), congrArg (fun z => [V.int z]) em4, (by omega), (by omega), ?_⟩
        refine for_range (lo := 0) (n := 4 * lim + 4) (fun i σ' H' => ∃ (a : M) (x4 x5 x6 x7 x8 x12 x13 x14 x15 x16 : Option V) (fl : Addr), σ' = [some (.ref va), some (.ref b), some (vint lim), some (.ref bd), x4, x5, x6, x7, x8, some (.ref tl), some (.ref fl), some (vint a.steps), x12, x13, x14, x15, x16] ∧ LAt K G g p ts lim H H' bd tl fl i a) ?_ ?_ ?_
        · refine ⟨startM g ts, _, _, _, _, _, _, _, _, _, _, fl, rfl, ⟨d1.trans S3, ?_, ?_, ?_, hst, fun m t n h => by simpa using h, d1.free htl2, d1.free hfl2, ?_, by simp [startM], by simp [startM], Nat.zero_le _⟩⟩
          · refine ⟨[.ref c], Sf _ _ upd_same, .cons ⟨c, nm, g2, rfl, SqT.of ((St.trans Sf) _ _ upd_same), (e2.same d1).same S3, henv.stay (Stay.of_same S3), hsl.wide g List.mem_cons_self⟩ .nil⟩
          · exact ⟨[], upd_same, .nil⟩
          · exact d2.stay (Stay.of_same S3)
          · intro z
            rw [← z, upd_same] at hfl
            cases hfl
        · rintro i σ' H' hi ⟨a, x4, x5, x6, x7, x8, x12, x13, x14, x15, x16, fl, rfl, L⟩
          obtain ⟨tvs, h10, h11⟩ := L.todo
          have htv := Paired.length h11
          have hnt := L.tlen
          have hnf := L.flen
          have hns := L.slim
          refine ⟨_, rfl, tl, _, rfl, .inl (SqL.of h10), rfl, ?_⟩
          have hgo : ∀ b, step (g :: p) a = some b → ∀ m t n, Runs (g :: p) b m t n → Runs (g :: p) (startM g ts) (m + (i + 1)) t n := fun b hb m t n hr => by
            have := L.runs (m + 1) t n (.go hb hr)
            rwa [show m + 1 + i = m + (i + 1) by omega] at this
          by_cases he : a.todo = []
          · obtain ⟨t, hft, hok⟩ := L.ty.fin he
            obtain ⟨us, h20, h21⟩ := L.found
            rw [hft] at h21
            obtain ⟨rv, r0, rfl, hrv, h22⟩ := h21.cons_eq
            have := h22.nil_eq
            subst this
            have hr0 := L.runs 0 t a.steps (by
              have : a = ⟨[], [t], a.steps⟩ := by
                obtain ⟨q1, q2, q3⟩ := a
                simp only at he hft
                rw [he, hft]
              rw [this]
              exact .fin)
            rw [Nat.zero_add] at hr0
            rw [he] at htv
            rw [List.length_reverse, ← htv]
            rw [decide_eq_true (show V.int (((([] : List Task).length) : Nat) : Int) = V.int 0 from rfl)]
            refine ⟨_, rfl, iteT ?_⟩
            refine ⟨_, rfl, fl, _, _, _, rfl, rfl, SqL.of h20, at0, _, rfl, (by show 3 ≤ sizeLine; decide), fun r hr => ?_⟩
            have Sr := same_upd (o := .tup [.str "done", rv, vint a.steps]) hr
            exact k _ _ (L.sm.trans Sr) (.inl ⟨i, a.steps, t, r, rv, hr0, L.slim, by omega, ⟨hok.dep, Nat.le_trans hok.wid (by omega), hok.ok⟩, rfl, SqT.of upd_same, hrv.same Sr⟩)
          · obtain ⟨b2, hstep, hst2⟩ := StOk.next hty L.ty he
            obtain ⟨todo, found, steps⟩ := a
            cases h11 with
            | nil => exact absurd rfl he
            | @cons tk v todo tvs htk h11 =>
              rw [decide_eq_false (show ¬ V.int (((v :: tvs).reverse.length : Nat) : Int) = V.int 0 from fun q => by have := V.int.inj q; rw [List.length_reverse, List.length_cons] at this; omega)]
              refine ⟨_, rfl, iteF ?_⟩
              refine ⟨_, rfl, .inl ⟨rfl, _, SqL.of h10⟩, tl, _, _, rfl, rfl, h10, rev_last _ _, ?_⟩
              rw [dropLast_rev]
              have y1 : Stay H' (upd H' tl (.lst tvs.reverse)) := Stay.lst h10
              have htk := htk.stay y1
              have h11 := tasksL_stay y1 h11
              have hbo := L.bod.stay y1
              obtain ⟨us, h20, h21⟩ := L.found
              have h20 : upd H' tl (.lst tvs.reverse) fl = some (.lst us.reverse) := by rw [upd_ne L.ne.symm]; exact h20
              have h21 := h21.tups y1.tups
              have sm1 : Same H (upd H' tl (.lst tvs.reverse)) := L.sm.upd L.ht
              have htl1 : upd H' tl (.lst tvs.reverse) tl = some (.lst tvs.reverse) := upd_same
              have hfl0 := L.hf
              have htl0 := L.ht
              have hne := L.ne
              have hsl1 := L.slim
              have hfo := L.ty.found
              clear L h10 y1
              generalize upd H' tl (.lst tvs.reverse) = H3 at *
              have hlens := step_lens hstep (fun e r k hk => by
                simp only [List.cons.injEq] at hk
                obtain ⟨rfl, rfl⟩ := hk
                obtain ⟨_, _, _, _, _, _, _, q⟩ := htk
                exact q)
              have fin : ∀ (H4 : Hp) (fl2 : Addr), Same H H4 → (∃ tvs : List V, H4 tl = some (.lst tvs.reverse) ∧ Paired (TaskL K H4) b2.todo tvs) → (∃ us : List V, H4 fl2 = some (.lst us.reverse) ∧ Reps K H4 b2.found us) → BodL K H4 bd (g :: p) → H fl2 = none → tl ≠ fl2 → b2.steps ≤ lim → LAt K G g p ts lim H H4 bd tl fl2 (i + 1) b2 :=
                fun H4 fl2 a1 a2 a3 a4 a5 a6 a7 => ⟨a1, a2, a3, a4, hst2, hgo b2 hstep, htl0, a5, a6, by omega, by omega, a7⟩
              have fin2 : ∀ (H4 : Hp) (fl2 : Addr), LC K (g :: p) H H4 bd tl fl2 b2.todo b2.found → b2.steps ≤ lim → LAt K G g p ts lim H H4 bd tl fl2 (i + 1) b2 := fun H4 fl2 a1 a7 => fin H4 fl2 a1.sm a1.todo a1.found a1.bod a1.hf a1.ne a7
              cases tk with
              | ev e r =>
                obtain ⟨c, d, y, rfl, hcT, hy, hd, hwd⟩ := htk
                refine ⟨_, rfl, c, _, _, _, rfl, rfl, hcT, at0, rfl, ?_⟩
                rw [decide_eq_false (show ¬ V.str "eval" = V.str "do" by decide +kernel)]
                refine ⟨_, rfl, iteF ?_⟩
                refine ⟨_, rfl, c, _, _, _, rfl, rfl, hcT, at0, rfl, ?_⟩
                rw [decide_eq_false (show ¬ V.str "eval" = V.str "if" by decide +kernel)]
                refine ⟨_, rfl, iteF ?_⟩
                refine ⟨_, rfl, c, _, _, _, rfl, rfl, hcT, at0, rfl, ?_⟩
                rw [decide_eq_false (show ¬ V.str "eval" = V.str "call" by decide +kernel)]
                refine ⟨_, rfl, iteF ?_⟩
                refine ⟨_, rfl, _, rfl, rfl, ?_⟩
                by_cases hlm : steps = lim
                · rw [decide_eq_true (show V.int ((steps : Nat) : Int) = V.int ((lim : Nat) : Int) by rw [hlm])]
                  refine ⟨_, rfl, iteT ⟨(by show 1 ≤ sizeLine; decide), fun r2 hr2 => ?_⟩⟩
                  exact k _ _ (sm1.trans (same_upd hr2)) (.inr ⟨r2, rfl, SqT.of upd_same⟩)
                · rw [decide_eq_false (show ¬ V.int ((steps : Nat) : Int) = V.int ((lim : Nat) : Int) from fun q => by have := V.int.inj q; omega)]
                  refine ⟨_, rfl, iteF ?_⟩
                  refine ⟨_, rfl, _, _, rfl, rfl, ?_⟩
                  refine ⟨_, rfl, c, _, _, _, rfl, rfl, hcT, at1, _, rfl, c, _, _, _, rfl, rfl, hcT, at2, _, _, rfl, ?_⟩
                  have hLC : LC K (g :: p) H H3 bd tl fl todo found := ⟨sm1, ⟨tvs, htl1, h11⟩, ⟨us, h20, h21⟩, hbo, htl0, hfl0, hne⟩
                  have hsl2 : steps + 1 ≤ lim := by simp only at hsl1; omega
                  have h21l := h21.length
                  simp only [List.length_cons] at hnt htv hnf h21l
                  cases e with
                  | v x =>
                    simp only [step, Option.map_eq_some_iff] at hstep
                    obtain ⟨t, hlk, rfl⟩ := hstep
                    obtain ⟨kvs', hk1, hk2⟩ := hd
                    obtain ⟨z, hz1, hz2⟩ := hk2 x t hlk
                    have hyx : y = .str x := (show Rep K H3 (.w x) y from hy).w_eq
                    subst hyx
                    have hg : DGet H3 d (.str x) (some z) := by rw [← hz1]; exact DGet.k (k := .inr x) hk1
                    refine ⟨_, rfl, .w x, _, rfl, hy, ?_⟩
                    refine ⟨_, rfl, iteT ⟨_, rfl, .inl ⟨rfl, _, SqL.of h20⟩, _, rfl, _, rfl, d, _, rfl, hg, fl, _, _, rfl, rfl, h20, by rw [List.length_reverse]; omega, ?_⟩⟩
                    exact ⟨⟨todo, t :: found, steps + 1⟩, _, _, _, _, _, _, _, _, _, _, fl, rfl, fin2 _ fl (hLC.pushF h20 h21 hz2) hsl2⟩
                  | q t =>
                    simp only [step, Option.some.injEq] at hstep
                    subst hstep
                    obtain ⟨ya, ys', rfl, hyT, hys'⟩ := (show Rep K H3 (.l [.w sQuote, t]) y from hy).l_eq
                    obtain ⟨y0, r0, rfl, e0', hys'⟩ := hys'.cons_eq
                    obtain ⟨y1, r1, rfl, e1', hys'⟩ := hys'.cons_eq
                    have e0' := e0'.w_eq
                    subst e0'
                    refine ⟨_, rfl, .l [.w sQuote, t], _, rfl, hy, ?_⟩
                    refine ⟨_, rfl, iteF ?_⟩
                    refine ⟨_, rfl, ya, _, _, _, rfl, rfl, hyT, at0, rfl, ?_⟩
                    rw [decide_eq_true (show V.str sQuote = V.str "quote" from rfl)]
                    refine ⟨_, rfl, iteT ⟨_, rfl, .inl ⟨rfl, _, SqL.of h20⟩, _, rfl, ya, _, _, _, rfl, rfl, hyT, at1, fl, _, _, rfl, rfl, h20, by rw [List.length_reverse]; omega, ?_⟩⟩
                    exact ⟨⟨todo, t :: found, steps + 1⟩, _, _, _, _, _, _, _, _, _, _, fl, rfl, fin2 _ fl (hLC.pushF h20 h21 e1') hsl2⟩
                  | app x es =>
                    rw [E.t_app] at hy hwd
                    obtain ⟨ya, ys', rfl, hyT, hys'⟩ := hy.l_eq
                    obtain ⟨y0, yes', rfl, e0', hes'⟩ := hys'.cons_eq
                    have e0' := e0'.w_eq
                    subst e0'
                    have hesl := hes'.length
                    rw [List.length_map] at hesl
                    have hwl := items_length (.l (.w x :: es.map E.t))
                    simp only [tItems, List.length_cons, List.length_map] at hwl
                    have hwa : ∀ e ∈ es, e.t.wide ≤ 100 := fun e he => Nat.le_trans (Nat.le_trans (wide_arg (w := x) he) (by rw [E.t_app]; exact Nat.le_refl _)) hwd
                    refine ⟨_, rfl, .l (.w x :: es.map E.t), _, rfl, hy, ?_⟩
                    refine ⟨_, rfl, iteF ?_⟩
                    have hnq : ¬ x = sQuote := fun z => by
                      subst z
                      rw [step_noquote] at hstep
                      cases hstep
                    refine ⟨_, rfl, ya, _, _, _, rfl, rfl, hyT, at0, rfl, ?_⟩
                    rw [decide_eq_false (show ¬ V.str x = V.str "quote" from fun z => hnq (V.str.inj z))]
                    refine ⟨_, rfl, iteF ?_⟩
                    refine ⟨_, rfl, ya, _, _, _, rfl, rfl, hyT, at0, rfl, ?_⟩
                    by_cases hif : x = sIf
                    · subst hif
                      rw [decide_eq_true (show V.str sIf = V.str "if" from rfl)]
                      refine ⟨_, rfl, iteT ?_⟩
                      simp only [step, if_true] at hstep
                      match es, hstep with
                      | [a1, a2, a3], hstep =>
                      simp only [Option.some.injEq] at hstep
                      subst hstep
                      obtain ⟨v1, r1, rfl, q1, hes'⟩ := hes'.cons_eq
                      obtain ⟨v2, r2, rfl, q2, hes'⟩ := hes'.cons_eq
                      obtain ⟨v3, r3, rfl, q3, hes'⟩ := hes'.cons_eq
                      refine ⟨_, rfl, .inl ⟨rfl, _, SqL.of htl1⟩, _, rfl, ya, _, _, _, rfl, rfl, hyT, at2, _, rfl, ya, _, _, _, rfl, rfl, hyT, at3, _, rfl, (by show 4 ≤ sizeLine; decide), fun c2 hc2 => ?_⟩
                      have Sc := same_upd (o := .tup [.str "if", v2, v3, .ref d]) hc2
                      obtain ⟨i1, m4, st4⟩ := hLC.push htl1 h11 hc2 (t := .br a2 a3 r) (xs := [.str "if", v2, v3, .ref d]) ⟨c2, d, v2, v3, rfl, SqT.of upd_same, q2.same Sc, q3.same Sc, hd.stay (Stay.of_same Sc), hwa a2 (.tail _ (.head _)), hwa a3 (.tail _ (.tail _ (.head _)))⟩
                      refine ⟨tl, _, _, rfl, rfl, i1, by rw [List.length_reverse]; omega, ?_⟩
                      have hyT4 := hyT.tups st4.tups
                      have q1 := q1.tups st4.tups
                      have hd4 := hd.stay st4
                      obtain ⟨tvs4, k1, k2⟩ := m4.todo
                      have k3 := Paired.length k2
                      simp only [List.length_cons] at k3
                      clear hLC htl1 h11 i1 st4 Sc hc2
                      generalize upd (upd H3 c2 (.tup [.str "if", v2, v3, .ref d])) tl (.lst (tvs.reverse ++ [.ref c2])) = H4 at *
                      refine ⟨_, rfl, .inl ⟨rfl, _, SqL.of k1⟩, _, rfl, ya, _, _, _, rfl, rfl, hyT4, at1, _, rfl, (by show 3 ≤ sizeLine; decide), fun c3 hc3 => ?_⟩
                      have Sc := same_upd (o := .tup [.str "eval", v1, .ref d]) hc3
                      obtain ⟨i1, m5, st5⟩ := m4.push k1 k2 hc3 (t := .ev a1 r) (xs := [.str "eval", v1, .ref d]) ⟨c3, d, v1, rfl, SqT.of upd_same, q1.same Sc, hd4.stay (Stay.of_same Sc), hwa a1 (.head _)⟩
                      refine ⟨tl, _, _, rfl, rfl, i1, by rw [List.length_reverse]; omega, ?_⟩
                      exact ⟨⟨.ev a1 r :: .br a2 a3 r :: todo, found, steps + 1⟩, _, _, _, _, _, _, _, _, _, _, fl, rfl, fin2 _ fl m5 hsl2⟩
                    · rw [decide_eq_false (show ¬ V.str x = V.str "if" from fun z => hif (V.str.inj z))]
                      refine ⟨_, rfl, iteF ?_⟩
                      refine ⟨_, rfl, ya, _, _, _, rfl, rfl, hyT, at0, (by show 5 ≤ sizeLine; decide), fun L hL => ⟨L, _, rfl, .inl (SqL.of upd_same), rfl, rfl, _, rfl, ?_⟩⟩
                      have SL := same_upd (o := .lst [.str "same", .str "word", .str "head", .str "tail", .str "join"]) hL
                      have hLC := hLC.same SL
                      have hyT := hyT.same SL
                      have hes' := hes'.same SL
                      have hd := hd.stay (Stay.of_same SL)
                      have htl1 := SL _ _ htl1
                      have h11 := tasksL_stay (Stay.of_same SL) h11
                      rw [inV_plain5]
                      clear sm1 hfo SL
                      generalize upd H3 L (.lst [.str "same", .str "word", .str "head", .str "tail", .str "join"]) = H4 at *
                      simp only [step, if_neg hif, if_neg hnq, Option.some.injEq] at hstep
                      cases hpl : plain x
                      · rw [hpl, if_neg Bool.false_ne_true] at hstep
                        subst hstep
                        refine iteF ?_
                        refine ⟨_, rfl, .inl ⟨rfl, _, SqL.of htl1⟩, _, rfl, _, rfl, ya, _, _, _, rfl, rfl, hyT, at0, (by show 2 ≤ sizeLine; decide), fun c2 hc2 => ?_⟩
                        obtain ⟨i1, m4, st4⟩ := hLC.push htl1 h11 hc2 (t := .call x es.length) (xs := [.str "call", .str x]) ⟨c2, rfl, SqT.of upd_same⟩
                        refine ⟨tl, _, _, rfl, rfl, i1, by rw [List.length_reverse]; omega, ?_⟩
                        have hyT4 := hyT.tups st4.tups
                        have hes4 := hes'.tups st4.tups
                        have hd4 := hd.stay st4
                        clear hLC htl1 h11 i1 st4 hc2 hyT hes' hd h20 h21 hy hbo
                        generalize upd (upd H4 c2 (.tup [.str "call", .str x])) tl (.lst (tvs.reverse ++ [.ref c2])) = H5 at *
                        generalize Task.call x es.length = tk at *
                        have em : (((V.str x :: yes').length : Nat) : Int) - 1 = ((es.length : Nat) : Int) := by rw [List.length_cons]; omega
                        refine ⟨_, rfl, ya, _, rfl, .inr hyT4, _, _, rfl, rfl, ?_⟩
                        refine ⟨((es.length : Nat) : Int), congrArg (fun z => [V.int z]) em, by omega, by omega, ?_⟩
                        refine for_range (lo := 0) (n := es.length) (fun i' σ' H' => ∃ (x4 x5 x6 x8 x12 x13 x14 : Option V), σ' = [some (.ref va), some (.ref b), some (vint lim), some (.ref bd), x4, x5, x6, some (.ref d), x8, some (.ref tl), some (.ref fl), some (vint (steps + 1)), x12, x13, x14, some (.ref ya), some (.str "call")] ∧
                          LC K (g :: p) H H' bd tl fl ((es.drop (es.length - i')).map (fun e => Task.ev e r) ++ tk :: todo) found ∧ Stay H5 H') ?_ ?_ ?_
                        · refine ⟨_, _, _, _, _, _, _, rfl, ?_, Stay.of_same (Same.refl _)⟩
                          rw [Nat.sub_zero, List.drop_length]
                          exact m4
                        · rintro i' σ' H' hi' ⟨x4, x5, x6, x8, x12, x13, x14, rfl, m5, st5⟩
                          obtain ⟨tvs5, k1, k2⟩ := m5.todo
                          have k3 := Paired.length k2
                          simp only [List.length_append, List.length_map, List.length_drop, List.length_cons] at k3
                          obtain ⟨ei, hei⟩ : ∃ ei, es[es.length - i' - 1]? = some ei := ⟨_, List.getElem?_eq_getElem (by omega)⟩
                          obtain ⟨yv, hy1, hy2⟩ := hes4.get (i := es.length - i' - 1) (t := ei.t) (by rw [List.getElem?_map, hei]; rfl)
                          have em2 : (((V.str x :: yes').length : Nat) : Int) - 1 - ((0 : Int) + (i' : Int)) = ((es.length - i' - 1 + 1 : Nat) : Int) := by rw [List.length_cons]; omega
                          have hdrop : es.drop (es.length - (i' + 1)) = ei :: es.drop (es.length - i') := by
                            have h0 : es.length - (i' + 1) < es.length := by omega
                            rw [List.drop_eq_getElem_cons h0]
                            have h1 : es[es.length - (i' + 1)]? = some ei := by rw [show es.length - (i' + 1) = es.length - i' - 1 by omega]; exact hei
                            rw [List.getElem?_eq_getElem h0] at h1
                            rw [Option.some.inj h1, show es.length - (i' + 1) + 1 = es.length - i' by omega]
                          refine ⟨_, rfl, .inl ⟨rfl, _, SqL.of k1⟩, _, rfl, _, rfl, ya, _, rfl, .inr (hyT4.tups st5.tups), _, _, rfl, rfl, _, rfl, _, _, rfl, rfl, ya, _, _, _, rfl, rfl, hyT4.tups st5.tups, atI_eq em2 (v := yv) (by rw [List.getElem?_cons_succ]; exact hy1), _, rfl, (by show 3 ≤ sizeLine; decide), fun c3 hc3 => ?_⟩
                          have Sc := same_upd (o := .tup [.str "eval", yv, .ref d]) hc3
                          obtain ⟨i1, m6, st6⟩ := m5.push k1 k2 hc3 (t := .ev ei r) (xs := [.str "eval", yv, .ref d]) ⟨c3, d, yv, rfl, SqT.of upd_same, (hy2.tups st5.tups).same Sc, (hd4.stay st5).stay (Stay.of_same Sc), hwa ei (List.mem_of_getElem? hei)⟩
                          refine ⟨tl, _, _, rfl, rfl, i1, by rw [List.length_reverse]; omega, ?_⟩
                          refine ⟨_, _, _, _, _, _, _, rfl, ?_, st5.trans st6⟩
                          rw [hdrop]
                          exact m6
                        · rintro σ' H' ⟨x4, x5, x6, x8, x12, x13, x14, rfl, m5, st5⟩
                          rw [Nat.sub_self, List.drop_zero] at m5
                          exact ⟨⟨es.map (fun e => Task.ev e r) ++ tk :: todo, found, steps + 1⟩, _, _, _, _, _, _, _, _, _, _, fl, rfl, fin2 _ fl m5 hsl2⟩
                      · rw [hpl, if_pos rfl] at hstep
                        subst hstep
                        refine iteT ?_
                        refine ⟨_, rfl, .inl ⟨rfl, _, SqL.of htl1⟩, _, rfl, _, rfl, ya, _, _, _, rfl, rfl, hyT, at0, (by show 2 ≤ sizeLine; decide), fun c2 hc2 => ?_⟩
                        obtain ⟨i1, m4, st4⟩ := hLC.push htl1 h11 hc2 (t := .op x) (xs := [.str "do", .str x]) ⟨c2, rfl, SqT.of upd_same⟩
                        refine ⟨tl, _, _, rfl, rfl, i1, by rw [List.length_reverse]; omega, ?_⟩
                        have hyT4 := hyT.tups st4.tups
                        have hes4 := hes'.tups st4.tups
                        have hd4 := hd.stay st4
                        clear hLC htl1 h11 i1 st4 hc2 hyT hes' hd h20 h21 hy hbo
                        generalize upd (upd H4 c2 (.tup [.str "do", .str x])) tl (.lst (tvs.reverse ++ [.ref c2])) = H5 at *
                        generalize Task.op x = tk at *
                        have em : (((V.str x :: yes').length : Nat) : Int) - 1 = ((es.length : Nat) : Int) := by rw [List.length_cons]; omega
                        refine ⟨_, rfl, ya, _, rfl, .inr hyT4, _, _, rfl, rfl, ?_⟩
                        refine ⟨((es.length : Nat) : Int), congrArg (fun z => [V.int z]) em, by omega, by omega, ?_⟩
                        refine for_range (lo := 0) (n := es.length) (fun i' σ' H' => ∃ (x4 x5 x6 x8 x12 x13 x14 : Option V), σ' = [some (.ref va), some (.ref b), some (vint lim), some (.ref bd), x4, x5, x6, some (.ref d), x8, some (.ref tl), some (.ref fl), some (vint (steps + 1)), x12, x13, x14, some (.ref ya), some (.str "do")] ∧
                          LC K (g :: p) H H' bd tl fl ((es.drop (es.length - i')).map (fun e => Task.ev e r) ++ tk :: todo) found ∧ Stay H5 H') ?_ ?_ ?_
                        · refine ⟨_, _, _, _, _, _, _, rfl, ?_, Stay.of_same (Same.refl _)⟩
                          rw [Nat.sub_zero, List.drop_length]
                          exact m4
                        · rintro i' σ' H' hi' ⟨x4, x5, x6, x8, x12, x13, x14, rfl, m5, st5⟩
                          obtain ⟨tvs5, k1, k2⟩ := m5.todo
                          have k3 := Paired.length k2
                          simp only [List.length_append, List.length_map, List.length_drop, List.length_cons] at k3
                          obtain ⟨ei, hei⟩ : ∃ ei, es[es.length - i' - 1]? = some ei := ⟨_, List.getElem?_eq_getElem (by omega)⟩
                          obtain ⟨yv, hy1, hy2⟩ := hes4.get (i := es.length - i' - 1) (t := ei.t) (by rw [List.getElem?_map, hei]; rfl)
                          have em2 : (((V.str x :: yes').length : Nat) : Int) - 1 - ((0 : Int) + (i' : Int)) = ((es.length - i' - 1 + 1 : Nat) : Int) := by rw [List.length_cons]; omega
                          have hdrop : es.drop (es.length - (i' + 1)) = ei :: es.drop (es.length - i') := by
                            have h0 : es.length - (i' + 1) < es.length := by omega
                            rw [List.drop_eq_getElem_cons h0]
                            have h1 : es[es.length - (i' + 1)]? = some ei := by rw [show es.length - (i' + 1) = es.length - i' - 1 by omega]; exact hei
                            rw [List.getElem?_eq_getElem h0] at h1
                            rw [Option.some.inj h1, show es.length - (i' + 1) + 1 = es.length - i' by omega]
                          refine ⟨_, rfl, .inl ⟨rfl, _, SqL.of k1⟩, _, rfl, _, rfl, ya, _, rfl, .inr (hyT4.tups st5.tups), _, _, rfl, rfl, _, rfl, _, _, rfl, rfl, ya, _, _, _, rfl, rfl, hyT4.tups st5.tups, atI_eq em2 (v := yv) (by rw [List.getElem?_cons_succ]; exact hy1), _, rfl, (by show 3 ≤ sizeLine; decide), fun c3 hc3 => ?_⟩
                          have Sc := same_upd (o := .tup [.str "eval", yv, .ref d]) hc3
                          obtain ⟨i1, m6, st6⟩ := m5.push k1 k2 hc3 (t := .ev ei r) (xs := [.str "eval", yv, .ref d]) ⟨c3, d, yv, rfl, SqT.of upd_same, (hy2.tups st5.tups).same Sc, (hd4.stay st5).stay (Stay.of_same Sc), hwa ei (List.mem_of_getElem? hei)⟩
                          refine ⟨tl, _, _, rfl, rfl, i1, by rw [List.length_reverse]; omega, ?_⟩
                          refine ⟨_, _, _, _, _, _, _, rfl, ?_, st5.trans st6⟩
                          rw [hdrop]
                          exact m6
                        · rintro σ' H' ⟨x4, x5, x6, x8, x12, x13, x14, rfl, m5, st5⟩
                          rw [Nat.sub_self, List.drop_zero] at m5
                          exact ⟨⟨es.map (fun e => Task.ev e r) ++ tk :: todo, found, steps + 1⟩, _, _, _, _, _, _, _, _, _, _, fl, rfl, fin2 _ fl m5 hsl2⟩
              | br ea eb r =>
                obtain ⟨c, d, n1, n2, rfl, hcT, hn1, hn2, hd, hw1, hw2⟩ := htk
                refine ⟨_, rfl, c, _, _, _, rfl, rfl, hcT, at0, rfl, ?_⟩
                rw [decide_eq_false (show ¬ V.str "if" = V.str "do" by decide +kernel)]
                refine ⟨_, rfl, iteF ?_⟩
                refine ⟨_, rfl, c, _, _, _, rfl, rfl, hcT, at0, rfl, ?_⟩
                rw [decide_eq_true (show V.str "if" = V.str "if" from rfl)]
                refine ⟨_, rfl, iteT ?_⟩
                cases found with
                | nil => simp [step] at hstep
                | cons t0 f0 =>
                  have hop2 := hstep
                  simp only [step, Option.some.injEq] at hop2
                  subst hop2
                  obtain ⟨u0, us, rfl, g0, h5⟩ := h21.cons_eq
                  refine ⟨_, rfl, c, _, _, _, rfl, rfl, hcT, at1, ?_⟩
                  refine ⟨_, rfl, .inl ⟨rfl, _, SqL.of h20⟩, fl, _, _, rfl, rfl, h20, rev_last _ _, ?_⟩
                  rw [dropLast_rev]
                  have y2 : Stay H3 (upd H3 fl (.lst us.reverse)) := Stay.lst h20
                  refine ⟨(by show 0 ≤ sizeLine; decide), fun q hq => ?_⟩
                  have Sq := same_upd (o := .tup []) hq
                  refine eq_rd (a := t0) (b := nil) ((g0.tups y2.tups).same Sq) ?_ ?_ ?_ ?_
                  · exact Rep.l (SqT.of upd_same) .nil
                  · exact ⟨(hfo t0 List.mem_cons_self).ok, (hfo t0 List.mem_cons_self).dep⟩
                  · exact ⟨by simp [T.Ok, OkL], by decide⟩
                  have S2 : Same H (upd (upd H3 fl (.lst us.reverse)) q (.tup [])) := (sm1.upd hfl0).trans Sq
                  have y3 := y2.trans (Stay.of_same Sq)
                  have htl2 : upd (upd H3 fl (.lst us.reverse)) q (.tup []) tl = some (.lst tvs.reverse) := Sq _ _ (by rw [upd_ne hne]; exact htl1)
                  have hfl2 : upd (upd H3 fl (.lst us.reverse)) q (.tup []) fl = some (.lst us.reverse) := Sq _ _ upd_same
                  have hcT := hcT.tups y3.tups
                  have hn1 := hn1.tups y3.tups
                  have hn2 := hn2.tups y3.tups
                  have hd := hd.stay y3
                  have h11 := tasksL_stay y3 h11
                  have hbo := hbo.stay y3
                  have h5 := h5.tups y3.tups
                  have htl3 : tvs.reverse.length + 1 ≤ sizeLine := by rw [List.length_reverse]; simp only [List.length_cons] at hlens hnt htv; omega
                  clear sm1 h20 h21 htl1 hfo g0 Sq y2 y3 hq
                  generalize upd (upd H3 fl (.lst us.reverse)) q (.tup []) = H5 at *
                  have hLC : LC K (g :: p) H H5 bd tl fl todo f0 := ⟨S2, ⟨tvs, htl2, h11⟩, ⟨us, hfl2, h5⟩, hbo, htl0, hfl0, hne⟩
                  by_cases hz : t0 = nil
                  · rw [decide_eq_true hz]
                    rw [if_pos hz] at fin2
                    refine ⟨_, rfl, iteT ?_⟩
                    refine ⟨_, rfl, c, _, _, _, rfl, rfl, hcT, at2, ?_⟩
                    refine ⟨_, rfl, .inl ⟨rfl, _, SqL.of htl2⟩, _, rfl, _, rfl, c, _, _, _, rfl, rfl, hcT, at3, (by show 3 ≤ sizeLine; decide), fun c2 hc2 => ?_⟩
                    have Sc := same_upd (o := .tup [.str "eval", n2, .ref d]) hc2
                    obtain ⟨i1, m4, st4⟩ := hLC.push htl2 h11 hc2 (t := .ev eb r) (xs := [.str "eval", n2, .ref d]) ⟨c2, d, n2, rfl, SqT.of upd_same, hn2.same Sc, hd.stay (Stay.of_same Sc), hw2⟩
                    refine ⟨tl, _, _, rfl, rfl, i1, by omega, ?_⟩
                    exact ⟨⟨.ev eb r :: todo, f0, steps⟩, _, _, _, _, _, _, _, _, _, _, fl, rfl, fin2 _ fl m4 hsl1⟩
                  · rw [decide_eq_false hz]
                    rw [if_neg hz] at fin2
                    refine ⟨_, rfl, iteF ?_⟩
                    refine ⟨_, rfl, .inl ⟨rfl, _, SqL.of htl2⟩, _, rfl, _, rfl, c, _, _, _, rfl, rfl, hcT, at3, (by show 3 ≤ sizeLine; decide), fun c2 hc2 => ?_⟩
                    have Sc := same_upd (o := .tup [.str "eval", n1, .ref d]) hc2
                    obtain ⟨i1, m4, st4⟩ := hLC.push htl2 h11 hc2 (t := .ev ea r) (xs := [.str "eval", n1, .ref d]) ⟨c2, d, n1, rfl, SqT.of upd_same, hn1.same Sc, hd.stay (Stay.of_same Sc), hw1⟩
                    refine ⟨tl, _, _, rfl, rfl, i1, by omega, ?_⟩
                    exact ⟨⟨.ev ea r :: todo, f0, steps⟩, _, _, _, _, _, _, _, _, _, _, fl, rfl, fin2 _ fl m4 hsl1⟩
              | op x =>
                obtain ⟨c, rfl, hcT⟩ := htk
                refine ⟨_, rfl, c, _, _, _, rfl, rfl, hcT, at0, rfl, ?_⟩
                rw [decide_eq_true (show V.str "do" = V.str "do" from rfl)]
                refine ⟨_, rfl, iteT ?_⟩
                have hop2 := hstep
                simp only [step, Option.map_eq_some_iff] at hop2
                obtain ⟨f', hop, rfl⟩ := hop2
                obtain ⟨t1, f1, rfl⟩ : ∃ t1 f1, f' = t1 :: f1 := by
                  obtain ⟨t0, f0, rfl, hcs⟩ := doOp_cases hop
                  rcases hcs with ⟨_, rfl⟩ | ⟨_, rfl⟩ | ⟨_, rfl⟩ | ⟨b0, g, rfl, ⟨_, rfl⟩ | ⟨_, rfl⟩⟩ <;> exact ⟨_, _, rfl⟩
                refine ⟨_, rfl, .inl ⟨rfl, _, SqL.of h20⟩, _, rfl, c, _, _, _, rfl, rfl, hcT, at1, _, rfl, ?_⟩
                refine ⟨x, fl, us, found, t1, f1, rfl, h20, h21, hop, fun u hu => ⟨⟨(hfo u hu).ok, (hfo u hu).dep⟩, by have := (hfo u hu).wid; omega⟩, fun H5 r us' kp5 h5 hr5 hrv => ?_⟩
                have hl5 := hr5.length
                simp only [List.length_cons] at hlens hnf
                refine ⟨fl, _, _, rfl, rfl, h5, by rw [List.length_reverse]; omega, ?_⟩
                have soft5 : ∀ b ∈ [fl], (∀ xs, H3 b ≠ some (.tup xs)) ∧ (∀ o xs, H3 b ≠ some (.frz o (.tup xs))) ∧ ∀ kvs, H3 b ≠ some (.dK kvs) := fun b hb => by
                  rw [List.mem_singleton.mp hb, h20]
                  exact ⟨(fun _ q => by cases q), (fun _ _ q => by cases q), (fun _ q => by cases q)⟩
                have y5 : Stay H3 H5 := ⟨kp5.tups fun b hb => ⟨(soft5 b hb).1, (soft5 b hb).2.1⟩, fun b kvs e => kp5.keep b _ (fun hb => (soft5 b hb).2.2 kvs e) e⟩
                have y6 : Stay H5 (upd H5 fl (.lst (us'.reverse ++ [r]))) := Stay.lst h5
                have S5 : Same H H5 := fun b v hb => kp5.keep b v (fun hb2 => by rw [List.mem_singleton.mp hb2, hfl0] at hb; cases hb) (sm1 b v hb)
                have y56 := y5.trans y6
                refine ⟨⟨todo, t1 :: f1, steps⟩, _, _, _, _, _, _, _, _, _, _, _, rfl, fin _ fl (S5.upd hfl0) ⟨tvs, ?_, tasksL_stay y56 h11⟩ ⟨r :: us', by rw [upd_same, List.reverse_cons], .cons (hrv.tups y6.tups) (hr5.tups y6.tups)⟩ (hbo.stay y56) hfl0 hne hsl1⟩
                rw [upd_ne hne]
                exact kp5.keep _ _ (fun z => hne (List.mem_singleton.mp z)) htl1
              | call g3 n3 =>
                obtain ⟨c, rfl, hcT⟩ := htk
                refine ⟨_, rfl, c, _, _, _, rfl, rfl, hcT, at0, rfl, ?_⟩
                rw [decide_eq_false (show ¬ V.str "call" = V.str "do" by decide +kernel)]
                refine ⟨_, rfl, iteF ?_⟩
                refine ⟨_, rfl, c, _, _, _, rfl, rfl, hcT, at0, rfl, ?_⟩
                rw [decide_eq_false (show ¬ V.str "call" = V.str "if" by decide +kernel)]
                refine ⟨_, rfl, iteF ?_⟩
                refine ⟨_, rfl, c, _, _, _, rfl, rfl, hcT, at0, rfl, ?_⟩
                rw [decide_eq_true (show V.str "call" = V.str "call" from rfl)]
                refine ⟨_, rfl, iteT ?_⟩
                simp only [step] at hstep
                obtain ⟨fn, hlk, hif⟩ : ∃ fn, look (g :: p) g3 = some fn ∧ (if n3 = fn.ps.length ∧ n3 ≤ found.length then some (⟨.ev fn.body (fn.ps.zip (found.take n3).reverse) :: todo, found.drop n3, steps⟩ : M) else none) = some b2 := by
                  cases e : look (g :: p) g3 with
                  | none => rw [e] at hstep; cases hstep
                  | some fn => rw [e] at hstep; exact ⟨fn, rfl, hstep⟩
                have hcond : n3 = fn.ps.length ∧ n3 ≤ found.length := Classical.byContradiction fun hh => by rw [if_neg hh] at hif; cases hif
                rw [if_pos hcond] at hif
                cases hif
                obtain ⟨hc1, hc2⟩ := hcond
                obtain ⟨hfm, hfn⟩ := look_mem hlk
                have h21l := h21.length
                simp only at h21l
                have hLC : LC K (g :: p) H H3 bd tl fl todo found := ⟨sm1, ⟨tvs, htl1, h11⟩, ⟨us, h20, h21⟩, hbo, htl0, hfl0, hne⟩
                obtain ⟨kb, kb1, kb2, kb3⟩ := hbo
                obtain ⟨fa, pv5, yb, q1, q2, q3, q4⟩ := kb3 fn hfm
                rw [hfn] at q1
                have hg : DGet H3 bd (.str g3) (some (.ref fa)) := by rw [← q1]; exact DGet.k (k := .inr g3) kb1
                obtain ⟨ppa, pvs, rfl, hpT3, hpx3⟩ := q3.l_eq
                have hpx3 := hpx3.words_eq
                subst hpx3
                have hgnd3 := hsl.ps fn hfm
                have hg123 := hsl.le fn hfm
                have hpl3 : (fn.ps.map V.str).length = n3 := by rw [List.length_map, hc1]
                refine ⟨_, rfl, _, rfl, c, _, _, _, rfl, rfl, hcT, at1, bd, _, rfl, hg, fa, _, rfl, q2, rfl, _, _, rfl, _, _, rfl, rfl, ?_⟩
                refine fun nm2 hnm2 => ?_
                have Sn2 := same_upd (o := .dK []) hnm2
                refine ⟨_, rfl, ppa, _, rfl, .inr (hpT3.same Sn2), _, rfl, by omega, by omega, ?_⟩
                refine for_range (lo := 0) (n := (fn.ps.map V.str).length) (fun i' σ' H' => ∃ (kvs : List (Key × V)) (x4 x8 x12 x14 x15 x16 : Option V), σ' = [some (.ref va), some (.ref b), some (vint lim), some (.ref bd), x4, some (.ref ppa), some yb, some (.ref nm2), x8, some (.ref tl), some (.ref fl), some (vint steps), x12, some (.ref c), x14, x15, x16] ∧
                  Same H3 H' ∧ H' nm2 = some (.dK kvs) ∧ kvs.length ≤ i' ∧ ∀ j q y, j < i' → fn.ps[j]? = some q → (us.take n3).reverse[j]? = some y → valV kvs (.inr q) = some y) ?_ ?_ ?_
                · exact ⟨[], _, _, _, _, _, _, rfl, Sn2, upd_same, Nat.zero_le _, fun _ _ _ h => absurd h (Nat.not_lt_zero _)⟩
                · rintro i' σ' H' hi' ⟨kvs, x4, x8, x12, x14, x15, x16, rfl, d1, d3, d4, d5⟩
                  rw [hpl3] at hi'
                  obtain ⟨q, hq⟩ : ∃ q, fn.ps[i']? = some q := ⟨_, List.getElem?_eq_getElem (by omega)⟩
                  obtain ⟨y, hy⟩ : ∃ y, (us.take n3).reverse[i']? = some y := ⟨_, List.getElem?_eq_getElem (by rw [List.length_reverse, List.length_take]; omega)⟩
                  have hyr := rev_get (us := us) (n := n3) (k := i') (by omega) hi' hy
                  have em2 : ((us.reverse.length : Nat) : Int) - (((fn.ps.map V.str).length : Nat) : Int) + ((0 : Int) + (i' : Int)) = ((us.length - n3 + i' : Nat) : Int) := by rw [List.length_reverse, hpl3]; omega
                  refine ⟨_, rfl, _, rfl, fl, _, rfl, .inl (SqL.of (d1 _ _ h20)), _, rfl, ppa, _, rfl, .inr (hpT3.same d1), _, _, rfl, rfl, _, rfl, _, _, rfl, rfl, fl, _, _, _, rfl, rfl, SqL.of (d1 _ _ h20), atI_eq em2 hyr, _, rfl, _, rfl, _, rfl, ppa, _, _, _, rfl, rfl, hpT3.same d1, atI_eq (Int.zero_add _) (v := .str q) (by rw [List.getElem?_map, hq]; rfl), nm2, _, rfl, DPut.k (k := .inr q) d3 (by omega), ?_⟩
                  refine ⟨_, _, _, _, _, _, _, rfl, d1.upd hnm2, upd_same, Nat.le_trans (length_putK _ _ _) (by omega), fun j q' y' hj hq' hy' => ?_⟩
                  rw [valV_put]
                  by_cases e : j = i'
                  · subst e
                    rw [hq] at hq'
                    rw [hy] at hy'
                    cases hq'
                    cases hy'
                    rw [if_pos rfl]
                  · rw [if_neg, d5 j q' y' (by omega) hq' hy']
                    intro z
                    have z := Sum.inr.inj z
                    subst z
                    exact e (nodup_get hgnd3 hq' hq)
                · rintro σ' H4 ⟨kvs, x4, x8, x12, x14, x15, x16, rfl, d1, d3, d4, d5⟩
                  rw [hpl3] at d5
                  have hLC := hLC.same d1
                  have harg : Reps K H4 (found.take n3).reverse (us.take n3).reverse := reps_reverse ((h21.take n3).same d1)
                  have henv : EnvL K H4 nm2 (fn.ps.zip (found.take n3).reverse) := ⟨kvs, d3, fun x t hx => by
                    obtain ⟨j, w1, w2⟩ := zip_lookup hx
                    obtain ⟨y, hy, hyr⟩ := harg.get w2
                    exact ⟨y, d5 j x y (by have := (List.getElem?_eq_some_iff.mp w1).1; omega) w1 hy, hyr⟩⟩
                  have em3 : ((us.reverse.length : Nat) : Int) - (((fn.ps.map V.str).length : Nat) : Int) = ((us.length - n3 : Nat) : Int) := by rw [List.length_reverse, hpl3]; omega
                  refine ⟨_, rfl, _, rfl, fl, _, rfl, .inl (SqL.of (d1 _ _ h20)), _, rfl, ppa, _, rfl, .inr (hpT3.same d1), _, _, rfl, rfl, _, rfl, fl, _, rfl, SqL.of (d1 _ _ h20), fun rl hrl => ?_⟩
                  have ecut : cutV us.reverse none (some (((us.reverse.length : Nat) : Int) - (((fn.ps.map V.str).length : Nat) : Int))) = (us.drop n3).reverse := by
                    rw [em3, cutV_take, List.take_reverse, show us.length - (us.length - n3) = n3 by omega]
                  rw [ecut]
                  have Sr := same_upd (o := .lst (us.drop n3).reverse) hrl
                  have hrl0 : H rl = none := (hLC.sm).free hrl
                  have ntr : tl ≠ rl := fun z => by
                    obtain ⟨tv, t1, _⟩ := hLC.todo
                    rw [← z, t1] at hrl
                    cases hrl
                  have hdr : Reps K H4 (found.drop n3) (us.drop n3) := (h21.drop n3).same d1
                  have hLC2 : LC K (g :: p) H (upd H4 rl (.lst (us.drop n3).reverse)) bd tl rl todo (found.drop n3) := by
                    have := hLC.same Sr
                    exact ⟨this.sm, this.todo, ⟨_, upd_same, hdr.same Sr⟩, this.bod, this.ht, hrl0, ntr⟩
                  have henv := henv.stay (Stay.of_same Sr)
                  have q4 := (q4.same d1).same Sr
                  clear hLC harg hdr Sr hrl
                  generalize upd H4 rl (.lst (us.drop n3).reverse) = H5 at *
                  obtain ⟨tvs5, k1, k2⟩ := hLC2.todo
                  have k3 := Paired.length k2
                  simp only [List.length_cons] at hnt htv
                  refine ⟨_, rfl, .inl ⟨rfl, _, SqL.of k1⟩, _, rfl, _, rfl, (by show 3 ≤ sizeLine; decide), fun c3 hc3 => ?_⟩
                  have Sc := same_upd (o := .tup [.str "eval", yb, .ref nm2]) hc3
                  obtain ⟨i1, m6, st6⟩ := hLC2.push k1 k2 hc3 (t := .ev fn.body (fn.ps.zip (found.take n3).reverse)) (xs := [.str "eval", yb, .ref nm2]) ⟨c3, nm2, yb, rfl, SqT.of upd_same, q4.same Sc, henv.stay (Stay.of_same Sc), hsl.wide fn hfm⟩
                  refine ⟨tl, _, _, rfl, rfl, i1, by rw [List.length_reverse]; omega, ?_⟩
                  exact ⟨⟨.ev fn.body (fn.ps.zip (found.take n3).reverse) :: todo, found.drop n3, steps⟩, _, _, _, _, _, _, _, _, _, _, rl, rfl, fin2 _ rl m6 hsl1⟩
        · rintro σ' H' ⟨a, x4, x5, x6, x7, x8, x12, x13, x14, x15, x16, fl, rfl, L⟩
          refine ⟨(by show 1 ≤ sizeLine; decide), fun r hr => ?_⟩
          exact k _ _ (L.sm.trans (same_upd hr)) (.inr ⟨r, rfl, SqT.of upd_same⟩)
end
end K46
/-! the law. -/
namespace K46
open PySem PySem.Spec PyProof.Rows L2

/-- what the law holds on to -/
structure LS (K : PySem.W.Frag) (H : Hp) (h dl L : Addr) (p : Prog) (vp : V) (ts : List T) (ys : List V) : Prop where
  hd : HandAt H h dl
  rp : Rep K H (progT p) vp
  hL : H L = some (.lst ys)
  ry : Reps K H ts ys
  ne : L ≠ h
theorem LS.step {K : PySem.W.Frag} {H H' : Hp} {h dl L : Addr} {p : Prog} {vp : V} {ts : List T} {ys : List V} (a : LS K H h dl L p vp ts ys) (k : Kp [h] H H') (hd : HandAt H' h dl) : LS K H' h dl L p vp ts ys := by
  have tt := a.hd.tups k
  exact ⟨hd, a.rp.tups tt, k.keep _ _ (by simpa using a.ne) a.hL, a.ry.tups tt, a.ne⟩
theorem LS.same {K : PySem.W.Frag} {H H' : Hp} {h dl L : Addr} {p : Prog} {vp : V} {ts : List T} {ys : List V} (a : LS K H h dl L p vp ts ys) (S : Same H H') : LS K H' h dl L p vp ts ys := a.step (Kp.of_same S) (a.hd.same S)
def judgeP (jt : T) : Prog := [⟨"claim", ["p"], .q jt⟩]
theorem ne_same {K : PySem.W.Frag} {H : Hp} {a : T} {x y : V} {Q : VK} (hx : Rep K H a x) (hy : Rep K H a y) (na : Nice a) (q : Q (.bl false) H) : rNeD K x y H Q :=
  ne_rd hx hy na na (by rw [decide_eq_true rfl]; exact q)
theorem lay_str {x : Str} (h : okWord x = true) : PyData.canLay0 (.str x) = true := strOk_of (okWord_of h)
/-- the outcome of a run, with its steps and without -/
theorem out3 {K : PySem.W.Frag} {H : Hp} {t : T} {x : V} {n : Nat} {a : Addr} (h : SqT K H a [.str "done", x, vint n]) (hx : Rep K H t x) : Dp K H (.ref a) (.tuple [.str "done", t.dat, .int (n : Int)]) := .tup h (.cons (.str _) (.cons (dp_of hx) (.cons (.int _) .nil)))
theorem out2 {K : PySem.W.Frag} {H : Hp} {t : T} {x : V} {a : Addr} (h : SqT K H a [.str "done", x]) (hx : Rep K H t x) : Dp K H (.ref a) (.tuple [.str "done", t.dat]) := .tup h (.cons (.str _) (.cons (dp_of hx) .nil))
theorem eqv_self (t : T) : PyData.eqv t.dat t.dat = true := by rw [eqv_dat]; exact decide_eq_true rfl
theorem shaped3 {t : T} (h : Nice t) (n : Nat) : SeqAt.shaped (.tuple [.str "done", t.dat, .int (n : Int)]) = true := by
  have h1 := dat_lay t h.ok
  have h2 := dat_depth t
  have h3 := h.dep
  unfold SeqAt.shaped
  rw [Bool.and_eq_true]
  refine ⟨?_, decide_eq_true ?_⟩
  · simp only [PyData.canLay0, PyData.canLayAll0, Bool.and_eq_true]
    exact ⟨lay_str (by decide +kernel), h1, by simp [PyData.canLay0]⟩
  · simp only [PyData.depth, PyData.depthAll, h2]
    omega
theorem shaped2 {t : T} (h : Nice t) : SeqAt.shaped (.tuple [.str "done", t.dat]) = true := by
  have h1 := dat_lay t h.ok
  have h2 := dat_depth t
  have h3 := h.dep
  unfold SeqAt.shaped
  rw [Bool.and_eq_true]
  refine ⟨?_, decide_eq_true ?_⟩
  · simp only [PyData.canLay0, PyData.canLayAll0, Bool.and_eq_true]
    exact ⟨lay_str (by decide +kernel), h1, trivial⟩
  · simp only [PyData.depth, PyData.depthAll, h2]
    omega
theorem ne_out3 {K : PySem.W.Frag} {H : Hp} {t : T} {x y : V} {n : Nat} {a b : Addr} {Q : VK} (ha : SqT K H a [.str "done", x, vint n]) (hb : SqT K H b [.str "done", y, vint n]) (hx : Rep K H t x) (hy : Rep K H t y) (h : Nice t) (q : Q (.bl false) H) : rNeD K (.ref a) (.ref b) H Q :=
  ⟨_, _, out3 ha hx, out3 hb hy, shaped3 h n, shaped3 h n, by
    have : PyData.eqv (.tuple [.str "done", t.dat, .int (n : Int)]) (.tuple [.str "done", t.dat, .int (n : Int)]) = true := by
      simp [PyData.eqv, PyData.eqvAll, eqv_self]
    rw [this]
    exact q⟩
theorem eq_out2 {K : PySem.W.Frag} {H : Hp} {t : T} {x y : V} {a b : Addr} {Q : VK} (ha : SqT K H a [.str "done", x]) (hb : SqT K H b [.str "done", y]) (hx : Rep K H t x) (hy : Rep K H t y) (h : Nice t) (q : Q (.bl true) H) : rEqD K (.ref a) (.ref b) H Q :=
  ⟨_, _, out2 ha hx, out2 hb hy, shaped2 h, shaped2 h, by
    have : PyData.eqv (.tuple [.str "done", t.dat]) (.tuple [.str "done", t.dat]) = true := by
      simp [PyData.eqv, PyData.eqvAll, eqv_self]
    rw [this]
    exact q⟩
theorem RunOut.tups {K : PySem.W.Frag} {g : Fn} {p : Prog} {ts : List T} {lim : Nat} {H H' : Hp} {r : V} (h : RunOut K g p ts lim H r) (tt : Tups H H') : RunOut K g p ts lim H' r := by
  rcases h with ⟨m, n, t, a, rv, h1, h2, h3, h4, h5, h6, h7⟩ | ⟨a, h1, h2⟩
  · exact .inl ⟨m, n, t, a, rv, h1, h2, h3, h4, h5, h6.tups tt, h7.tups tt⟩
  · exact .inr ⟨a, h1, h2.tups tt⟩
structure JudOk (jt : T) : Prop where
  good : Good (judgeP jt)
  pk : Pk (judgeP jt)
  sz : psz (judgeP jt) ≤ 20
  ok : (progT (judgeP jt)).Ok
  dep : (progT (judgeP jt)).depth ≤ 10
theorem jud_ok {jt : T} (h : jt = nil ∨ jt = yes) : JudOk jt := by
  have hp : okWord "p" = true ∧ special "p" = none ∧ okWord "claim" = true ∧ special "claim" = none ∧ ("claim" : Str).length ≤ 1000 ∧ (∃ c cs, ("claim" : Str).cps.toList = c :: cs ∧ c ≠ 102) := by
    refine ⟨by decide +kernel, by decide +kernel, by decide +kernel, by decide +kernel, by decide +kernel, ⟨99, [108, 97, 105, 109], by decide +kernel, by decide⟩⟩
  obtain ⟨p1, p2, p3, p4, p5, p6⟩ := hp
  have hjt : jt.Ok ∧ jt.wide ≤ 100 ∧ jt.size = 1 ∧ jt.depth ≤ 1 := by
    rcases h with rfl | rfl
    · exact ⟨trivial, by simp [T.wide, wideL], by simp [T.size, sizeL], by simp [T.depth, depthL]⟩
    · exact ⟨yes_ok, by simp [T.wide], by simp [T.size], by simp [T.depth]⟩
  obtain ⟨j1, j2, j3, j4⟩ := hjt
  have hb : (E.q jt).t.Ok := ⟨wi.2.2.2.2.2.2, j1, trivial⟩
  have hm : ∀ f ∈ judgeP jt, f = ⟨"claim", ["p"], .q jt⟩ := fun f hf => List.mem_singleton.mp hf
  have hps : ∀ x ∈ (["p"] : List Str), x = "p" := fun x hx => List.mem_singleton.mp hx
  have hbs : (E.q jt).t.size = 3 := by rw [Eq_t]; simp only [T.size, sizeL, j3]
  refine ⟨⟨by simp [judgeP], by show 1 ≤ 100; decide, by simp [judgeP], fun f hf => ?_, fun f hf => ?_, fun f hf => ?_, fun f hf => ?_, fun f hf => ?_, fun f hf => ?_⟩, ⟨fun f hf => ?_, fun f hf => ?_, fun f hf => ?_⟩, ?_, prog_ok fun f hf => ?_, ?_⟩
  · rw [hm f hf]; exact .inl p6
  · rw [hm f hf]; exact p4
  · rw [hm f hf]; exact ⟨by simp, by show 1 ≤ 12; decide, fun x hx => by rw [hps x hx]; exact p2⟩
  · rw [hm f hf]; exact .q
  · rw [hm f hf]; exact p5
  · rw [hm f hf]; show (E.q jt).t.size ≤ _; omega
  · rw [hm f hf]; exact ⟨by simp, by show 1 ≤ 4; decide, fun x hx => by rw [hps x hx]; exact okWord_of p1, fun x hx => by rw [hps x hx]; exact p2⟩
  · rw [hm f hf]; exact hb
  · rw [hm f hf]
    show (E.q jt).t.wide ≤ 100
    rw [Eq_t]
    simp only [T.wide, wideL, List.length_cons, List.length_nil]
    omega
  · show psz [(⟨"claim", ["p"], .q jt⟩ : Fn)] ≤ 20
    rw [psz_cons, fn_size, hbs]
    show 3 + 1 + 3 + 0 ≤ 20
    decide
  · rw [hm f hf]
    exact fn_ok (okWord_of p3) (fun x hx => by rw [hps x hx]; exact okWord_of p1) hb
  · refine prog_depth (d := 9) fun f hf => ?_
    rw [hm f hf]
    refine fn_depth (d := 7) ?_
    show (E.q jt).t.depth ≤ 7
    rw [Eq_t]
    simp only [T.depth, depthL]
    omega
theorem GenF.pk {p : Prog} (h : GenF p) : Pk p := by
  refine ⟨fun f hf => ?_, fun f hf => (h.txt hf).ok, fun f hf => ?_⟩
  · have := allP_ok _ (h.fn f hf).ps
    exact ⟨this.nd, by have := this.le; omega, this.ok, this.sp⟩
  · have := (h.txt hf).wide
    omega
theorem GenF.psz {p : Prog} (h : GenF p) : psz p ≤ 6600 := by
  have := h.txtPr.size
  rw [progT_size] at this
  omega
theorem trio_of {jt : T} (hj : jt = nil ∨ jt = yes) {n y : Prog} {m : Nat} (hn : GenF n) (hy : GenF y) (hm : m ≤ 3) (h1 : ∃ h r, n = h :: r ∧ h.ps.length = m) (h2 : ∃ h r, y = h :: r ∧ h.ps.length = m) : Trio (judgeP jt) n y m := by
  have j := jud_ok hj
  refine ⟨j.good, hn.good, hy.good, j.pk, hn.pk, hy.pk, ?_, ?_, hm, ⟨_, _, rfl, rfl⟩, h1, h2⟩
  · have h3 := hn.len
    have h4 := hy.len
    show 1 + _ + _ ≤ 20
    omega
  · have h3 := hn.psz
    have h4 := hy.psz
    have h5 := j.sz
    omega
def spLaw (K : PySem.W.Frag) : Sp := fun vs H Q _ => ∃ (a : Addr) (ns : List Int), vs = [.ref a] ∧ SqL K H a (ns.map V.int) ∧ ns.length ≤ 63 ∧ ∀ H', Q (.bl true) H'
abbrev sLaw : Stmt := top 66
theorem sc_sLaw : FnScope ["_law_script", "_law_hand", "_law_program_here", "_law_inputs", "_law_k", "_law_judge", "_law_due", "_law_read", "_law_run_here", "_law_other", "_law_pair", "_law_made"] ["_law_script"] (defScope sLaw) := ⟨rfl, rfl, rfl, by decide +kernel, rfl, by decide +kernel, by decide +kernel⟩
section
variable {P : Program} {w : World} {K : PySem.W.Frag} {mg : Str → Option Value} {base : Heap} {cR : Addr}
theorem ok_law {f fA fT fP fV fR fE fS fW fL fX fM : Addr} {fd fdA fdT fdP fdV fdR fdE fdS fdW fdL fdX fdM : FuncData} (B : Bl mg) (TR : TxtR K cR) (D : Dfn K mg "law" sLaw ["_law_script"] f fd)
    (DA : Dfn K mg "_law_draws" sDraws ["_law_script", "_law_many"] fA fdA) (GA : FnOk P w K mg base CX0 10 fA fdA ["_law_script", "_law_many"] (spDraws K))
    (DT : Dfn K mg "_law_take" sTake ["_law_hand", "_law_many"] fT fdT) (GT : FnOk P w K mg base CX0 10 fT fdT ["_law_hand", "_law_many"] spTake)
    (DP : Dfn K mg "_law_program" sProgram ["_law_hand", "_law_inputs"] fP fdP) (GP : FnOk P w K mg base CX0 10 fP fdP ["_law_hand", "_law_inputs"] (spProgram K))
    (DV : Dfn K mg "_law_value" sValue ["_law_hand", "_law_depth"] fV fdV) (GV : FnOk P w K mg base CX0 10 fV fdV ["_law_hand", "_law_depth"] (spValue K 2))
    (DR : Dfn K mg "_law_run" sLRun ["_law_program_here", "_law_inputs", "_law_limit"] fR fdR) (GR : FnOk P w K mg base CX0 10 fR fdR ["_law_program_here", "_law_inputs", "_law_limit"] (spLRun K))
    (DE : Dfn K mg "read_value" sRead ["text"] fE fdE) (GE : FnOk P w K mg base CX0 10 fE fdE ["text"] (spRead K))
    (DS : Dfn K mg "_law_spaced" sSpaced ["_law_hand", "_law_text"] fS fdS) (GS : FnOk P w K mg base CX0 10 fS fdS ["_law_hand", "_law_text"] spSpaced)
    (DW : Dfn K mg "write_value" sWrite ["value"] fW fdW) (GW : FnOk P w K mg base CX0 10 fW fdW ["value"] (spWrite K))
    (DL : Dfn K mg "_law_small" sSmall ["_law_value_here"] fL fdL) (GL : FnOk P w K mg base CX0 10 fL fdL ["_law_value_here"] (spSmall K))
    (DX : Dfn K mg "run_program" sRunProgram ["program", "inputs", "limit"] fX fdX) (GX : FnOk P w K mg base CX0 10 fX fdX ["program", "inputs", "limit"] (spRunProgram P w K cR))
    (DM : Dfn K mg "mirror" sMirror ["judge", "no", "yes"] fM fdM) (GM : FnOk P w K mg base CX0 10 fM fdM ["judge", "no", "yes"] (spMirror K)) :
    FnOk P w K mg base CX0 11 f fd ["_law_script"] (spLaw K) := by
  refine D.F.ok sc_sLaw (fun vs H Q XE h => ?_) (fun cdv AA outer st H vs Q XE hr h => ?_)
  · obtain ⟨a, ns, rfl, _⟩ := h
    rfl
  · obtain ⟨a, ns, rfl, hS, hl, k⟩ := h
    have nd := sc_sLaw.nd
    have hu64 := hr.units
    refine ⟨_,
      (pss_cons (ps_set (i := 1) nd rfl (.inr rfl) (pe_lst (pa_cons (pe_call GA hr (by rfl) DA.g DA.F.kp DA.b .nil pass0 (pa_cons (pv 0) (pa_cons pe_int pa_nil))) (pa_cons pe_int pa_nil))))
      (pss_cons (ps_set (i := 2) nd rfl (.inl rfl) (pe_call GP hr (by rfl) DP.g DP.F.kp DP.b .nil pass0 (pa_cons (pv 1) (pa_cons (pe_call GT hr (by rfl) DT.g DT.F.kp DT.b .nil pass0 (pa_cons (pv 1) (pa_cons pe_int pa_nil))) pa_nil))))
      (pss_cons (ps_setLc (i := 3) (own := [("_law_k", 4)]) (g := gName 4) (tt := tYes) (by rfl) nd rfl rfl (sw_true rfl rfl rfl (by decide +kernel)) (pi_range1 (by rfl) B.range (pa_cons (pe_callB call_len_seq (by rfl) B.len PySem.boot_len (pa_cons (pe_ix ix_tup (pe_ix ix_tup (pv 2) pe_int (fun _ _ => rfl)) pe_int (fun _ _ => rfl)) pa_nil)) pa_nil)) (blkOk_by (own := [("_law_k", 4)]) (N := ["_law_script", "_law_hand", "_law_program_here", "_law_inputs", "_law_k", "_law_judge", "_law_due", "_law_read", "_law_run_here", "_law_other", "_law_pair", "_law_made"]) (sc := defScope sLaw) (by decide +kernel)) (fun _ _ _ _ _ => by exact (pg_name (i := 4) nd rfl (Or.inl rfl))) (fun _ _ _ _ _ => by exact pts_nil) (fun _ _ _ _ _ => by exact (pe_call GV hr (by rfl) DV.g DV.F.kp DV.b .nil pass0 (pa_cons (pv 1) (pa_cons pe_int pa_nil)))))
      (pss_cons (ps_set (i := 5) nd rfl (.inl rfl) (pe_tup (pa_cons (pe_tup (pa_cons pe_str (pa_cons (pe_tup (pa_cons pe_str pa_nil)) (pa_cons (pe_tup (pa_cons pe_str (pa_cons (pe_ix ix_list (pe_lst (pa_cons (pe_tup pa_nil) (pa_cons pe_str pa_nil))) (pe_call GT hr (by rfl) DT.g DT.F.kp DT.b .nil pass0 (pa_cons (pv 1) (pa_cons pe_int pa_nil))) (fun _ _ => rfl)) pa_nil))) pa_nil)))) pa_nil)))
      (pss_cons (ps_set (i := 6) nd rfl (.inl rfl) (pe_call GR hr (by rfl) DR.g DR.F.kp DR.b .nil pass0 (pa_cons (pv 2) (pa_cons (pv 3) (pa_cons pe_int pa_nil)))))
      (pss_cons (ps_set (i := 7) nd rfl (.inl rfl) (pe_call GE hr (by rfl) DE.g DE.F.kp DE.b .nil pass0 (pa_cons (pe_call GS hr (by rfl) DS.g DS.F.kp DS.b .nil pass0 (pa_cons (pv 1) (pa_cons (pe_call GW hr (by rfl) DW.g DW.F.kp DW.b .nil pass0 (pa_cons (pv 2) pa_nil)) pa_nil))) pa_nil)))
      (pss_cons (ps_if (PW.pt (pw_or (pt_cmpR (op_neD hu64) (pv 7) (pv 2) (nomark _)) (pw_or1 (pt_cmpR (op_neD hu64) (pe_call GE hr (by rfl) DE.g DE.F.kp DE.b .nil pass0 (pa_cons (pe_call GS hr (by rfl) DS.g DS.F.kp DS.b .nil pass0 (pa_cons (pv 1) (pa_cons (pe_call GW hr (by rfl) DW.g DW.F.kp DW.b .nil pass0 (pa_cons (pv 5) pa_nil)) pa_nil))) pa_nil)) (pv 5) (nomark _)))))
      (pss_one (ps_ret pe_bl))
      pss_nil)
      (pss_cons (ps_if (PW.pt (pw_or (pt_cmpR op_ne (pe_ix ix_tup (pv 6) pe_int (fun _ _ => rfl)) pe_str (nomark _)) (pw_or1 (pt_not (pt_val (pe_call GL hr (by rfl) DL.g DL.F.kp DL.b .nil pass0 (pa_cons (pe_ix ix_tup (pv 6) pe_int (fun _ _ => rfl)) pa_nil)))))))
      (pss_one (ps_ret pe_bl))
      pss_nil)
      (pss_cons (ps_set (i := 8) nd rfl (.inl rfl) (pe_call GX hr (by rfl) DX.g DX.F.kp DX.b .nil pass0 (pa_cons (pv 7) (pa_cons (pv 3) (pa_cons pe_int pa_nil)))))
      (pss_cons (ps_if (pt_cmpR (op_neD hu64) (pe_tup (pa_cons (pe_fld (pv 8) rfl) (pa_cons (pe_fld (pv 8) rfl) (pa_cons (pe_fld (pv 8) rfl) pa_nil)))) (pv 6) (nomark _))
      (pss_one (ps_ret pe_bl))
      pss_nil)
      (pss_cons (ps_set (i := 9) nd rfl (.inl rfl) (pe_call GP hr (by rfl) DP.g DP.F.kp DP.b .nil pass0 (pa_cons (pv 1) (pa_cons (pe_callB call_len_seq (by rfl) B.len PySem.boot_len (pa_cons (pv 3) pa_nil)) pa_nil))))
      (pss_cons (ps_set (i := 10) nd rfl (.inl rfl) (pe_ix ix_list (pe_lst (pa_cons (pe_tup (pa_cons (pv 7) (pa_cons (pv 9) pa_nil))) (pa_cons (pe_tup (pa_cons (pv 9) (pa_cons (pv 7) pa_nil))) pa_nil))) (pe_callTy call_int1 (by rfl) B.int PyProof.Rows.boot_int (pa_cons (pe_cmpR (op_neD hu64) (pe_ix ix_tup (pe_ix ix_tup (pv 5) pe_int (fun _ _ => rfl)) pe_int (fun _ _ => rfl)) (pe_tup (pa_cons pe_str (pa_cons (pe_tup pa_nil) pa_nil))) (nomark _)) pa_nil)) (fun _ _ => rfl)))
      (pss_cons (ps_set (i := 11) nd rfl (.inl rfl) (pe_call GE hr (by rfl) DE.g DE.F.kp DE.b .nil pass0 (pa_cons (pe_call GW hr (by rfl) DW.g DW.F.kp DW.b .nil pass0 (pa_cons (pe_call GM hr (by rfl) DM.g DM.F.kp DM.b .nil pass0 (pa_cons (pv 5) (pa_cons (pe_ix ix_tup (pv 10) pe_int (fun _ _ => rfl)) (pa_cons (pe_ix ix_tup (pv 10) pe_int (fun _ _ => rfl)) pa_nil)))) pa_nil)) pa_nil)))
      (pss_cons (ps_set (i := 8) nd rfl (.inl rfl) (pe_call GX hr (by rfl) DX.g DX.F.kp DX.b .nil pass0 (pa_cons (pv 11) (pa_cons (pv 3) (pa_cons pe_int pa_nil)))))
      (pss_one (ps_ret (pe_cmpR (op_eqD hu64) (pe_tup (pa_cons (pe_fld (pv 8) rfl) (pa_cons (pe_fld (pv 8) rfl) pa_nil))) (pe_tup (pa_cons pe_str (pa_cons (pe_ix ix_tup (pv 6) pe_int (fun _ _ => rfl)) pa_nil))) (nomark _))))))))))))))))))
      , ?_⟩
    have hs : sizeLine = 16777216 := rfl
    refine ⟨_, rfl, a, ns, rfl, hS, hl, fun H1 dl ds S1 hdl0 hdl hds => ⟨(by show 2 ≤ sizeLine; decide), fun h hh => ?_⟩⟩
    have S2 := same_upd (o := .lst [.ref dl, .int 0]) hh
    have nhd : h ≠ dl := fun z => by rw [z, hdl] at hh; cases hh
    have hd2 : HandAt (upd H1 h (.lst [.ref dl, .int 0])) h dl := ⟨0, ds, upd_same, by rw [upd_ne nhd.symm]; exact hdl, hds, nhd⟩
    clear hS hdl0 hdl S1 S2 hh
    generalize upd H1 h (.lst [.ref dl, .int 0]) = H2 at *
    refine ⟨_, rfl, _, rfl, h, dl, 4, rfl, hd2, by decide, by decide, fun H3 m kp3 hd3 hm => ⟨h, dl, m, rfl, by omega, hd3, fun H4 p r kp4 hd4 hp hgen => ?_⟩⟩
    have hm3 : m ≤ 3 := by omega
    obtain ⟨G, g, rr, rfl, hgm, hty, hst⟩ := hgen.typed hm3
    have hgf := hgen.genF hm3
    clear hgen kp3 hd3 hd2 kp4
    obtain ⟨va, vxs, rfl, hvT, hvx⟩ := (show Rep K H4 (.l ((g :: rr).map Fn.t)) r from hp).l_eq
    obtain ⟨gv, vxs', rfl, hgv, _⟩ := hvx.cons_eq
    obtain ⟨ga, gxs, rfl, hgT, hgx⟩ := hgv.l_eq
    obtain ⟨g0, r0, rfl, e0, hgx⟩ := hgx.cons_eq
    obtain ⟨g1, r1, rfl, e1, hgx⟩ := hgx.cons_eq
    obtain ⟨pa, pxs, rfl, hpT, hpx⟩ := e1.l_eq
    have hpx := hpx.words_eq
    subst hpx
    have hpl : (g.ps.map V.str).length = m := by rw [List.length_map, hgm]
    refine ⟨_, rfl, va, _, _, _, rfl, rfl, hvT, at0, ga, _, _, _, rfl, rfl, hgT, at1, pa, _, rfl, .inr hpT, _, rfl, by omega, by omega, fun L hL => ?_⟩
    have nL : L ≠ h := fun z => hd4.ne (z ▸ hL)
    have nL2 : L ≠ dl := fun z => hd4.ne2 (z ▸ hL)
    refine lc_range (lo := 0) (n := (g.ps.map V.str).length) (fun i H' => ∃ (ts : List T) (cs : List V), Kp [h] H4 H' ∧ HandAt H' h dl ∧ H' L = some (.lst cs) ∧ Reps K H' ts cs ∧ ts.length = i ∧ ∀ t ∈ ts, ValOk 2 t) ⟨[], [], Kp.of_same (same_upd hL), hd4.same (same_upd hL), upd_same, .nil, rfl, fun _ h => nomatch h⟩ ?_ ?_
    · rintro i H' hi ⟨ts, cs, c1, c2, c3, c4, c5, c6⟩
      have hcl := c4.length
      refine ⟨rfl, ?_⟩
      refine ⟨_, rfl, h, dl, 2, rfl, Nat.le_refl _, c2, fun H5 t r kp5 hd5 hr5 hv => ?_⟩
      have l3 := kp5.keep L _ (by simpa using nL) c3
      have tt3 := c2.tups kp5
      have tt4 : Tups H5 (upd H5 L (.lst (cs ++ [r]))) := Tups.upd l3 trivial
      refine ⟨cs, l3, by omega, ts ++ [t], cs ++ [r], (c1.trans kp5).upd (.inr hL), hd5.upd nL nL2, upd_same, ((c4.tups tt3).tups tt4).snoc (hr5.tups tt4), by rw [List.length_append, c5]; rfl, fun u hu => ?_⟩
      rcases List.mem_append.mp hu with hu | hu
      · exact c6 u hu
      · rw [List.mem_singleton.mp hu]; exact hv
    · rintro H5 ⟨ts, cs, c1, c2, c3, c4, c5, c6⟩
      rw [hpl] at c5
      have hst := hst ts c5 c6
      have ls : LS K H5 h dl L (g :: rr) (.ref va) ts cs := ⟨c2, hp.tups (hd4.tups c1), c3, c4, nL⟩
      clear hpT hgT hvT hvx hgv hgx e0 e1 hL c1 c2 c3 c4 hp hd4
      -- the judge
      refine ⟨(by show 1 ≤ sizeLine; decide), fun p1 hp1 => ⟨(by show 0 ≤ sizeLine; decide), fun e0 he0 => ⟨(by show 2 ≤ sizeLine; decide), fun Lq hLq => ?_⟩⟩⟩
      have T1 := same_upd (o := .tup [.str "p"]) hp1
      have T2 := same_upd (o := .tup []) he0
      have T3 := same_upd (o := .lst [.ref e0, .str "yes"]) hLq
      have j1 : SqT K (upd (upd (upd H5 p1 (.tup [.str "p"])) e0 (.tup [])) Lq (.lst [.ref e0, .str "yes"])) p1 [.str "p"] := SqT.same T3 (SqT.same T2 (SqT.of upd_same))
      have j2 : SqT K (upd (upd (upd H5 p1 (.tup [.str "p"])) e0 (.tup [])) Lq (.lst [.ref e0, .str "yes"])) e0 [] := SqT.same T3 (SqT.of upd_same)
      have j3 : upd (upd (upd H5 p1 (.tup [.str "p"])) e0 (.tup [])) Lq (.lst [.ref e0, .str "yes"]) Lq = some (.lst [.ref e0, .str "yes"]) := upd_same
      have ls0 := ls.same (T1.trans T2)
      have nLq : Lq ≠ h := fun z => ls0.hd.ne (z ▸ hLq)
      have ls := ls0.same T3
      clear ls0 T1 T2 T3 hp1 he0 hLq
      generalize upd (upd (upd H5 p1 (.tup [.str "p"])) e0 (.tup [])) Lq (.lst [.ref e0, .str "yes"]) = H6 at *
      refine ⟨_, rfl, h, dl, 2, rfl, ls.hd, by decide, by decide, fun H7 r2 kp7 hd7 hr2 => ?_⟩
      have tt7 := ls.hd.tups kp7
      have j1 := j1.tups tt7
      have j2 := j2.tups tt7
      have j3 := kp7.keep Lq _ (by simpa using nLq) j3
      have ls := ls.step kp7 hd7
      obtain ⟨jv, jt, hat, hjr, hjc⟩ : ∃ jv jt, [V.ref e0, .str "yes"][r2]? = some jv ∧ Rep K H7 jt jv ∧ (jt = nil ∨ jt = yes) := by
        have : r2 = 0 ∨ r2 = 1 := by omega
        rcases this with rfl | rfl
        · exact ⟨_, nil, rfl, Rep.l j2 .nil, .inl rfl⟩
        · exact ⟨_, yes, rfl, .w, .inr rfl⟩
      refine ⟨Lq, _, _, jv, rfl, rfl, SqL.of j3, atI_nat hat, (by show 2 ≤ sizeLine; decide), fun p2 hp2 => ⟨(by show 3 ≤ sizeLine; decide), fun p3 hp3 => ⟨(by show 1 ≤ sizeLine; decide), fun p4 hp4 => ?_⟩⟩⟩
      have T1 := same_upd (o := .tup [.str "quote", jv]) hp2
      have T2 := same_upd (o := .tup [.str "claim", .ref p1, .ref p2]) hp3
      have T3 := same_upd (o := .tup [.ref p3]) hp4
      have T0 := (T1.trans T2).trans T3
      have hj : Rep K (upd (upd (upd H7 p2 (.tup [.str "quote", jv])) p3 (.tup [.str "claim", .ref p1, .ref p2])) p4 (.tup [.ref p3])) (progT (judgeP jt)) (.ref p4) := by
        refine Rep.l (SqT.of upd_same) (.cons (Rep.l (SqT.same T3 (SqT.of upd_same)) (.cons .w (.cons (Rep.l (j1.same T0) (.cons .w .nil)) (.cons (Rep.l (SqT.same T3 (SqT.same T2 (SqT.of upd_same))) (.cons .w (.cons (hjr.same T0) .nil))) .nil)))) .nil)
      have ls := ls.same T0
      clear T1 T2 T3 T0 hp2 hp3 hp4 hat hjr j1 j2 j3 nLq tt7 hd7 kp7
      generalize upd (upd (upd H7 p2 (.tup [.str "quote", jv])) p3 (.tup [.str "claim", .ref p1, .ref p2])) p4 (.tup [.ref p3]) = H8 at *
      have hcl := ls.ry.length
      have htx := hgf.txtPr
      -- the law's own run
      refine ⟨_, rfl, _, rfl, G, .ref va, L, cs, g, rr, ts, 2000, rfl, ls.rp, ls.hL, ls.ry, by rw [c5, hgm], hgf.slim, hty, hst, by decide, by have := hgf.len; simp only [List.length_cons] at this; omega, fun H9 due S9 hdue => ?_⟩
      have ls := ls.same S9
      have hj := hj.same S9
      -- written, spaced, read
      refine ⟨_, rfl, _, rfl, progT (g :: rr), .ref va, rfl, ls.rp, by have := htx.size; omega, by have h1 := txt_len _ htx.ok; have h2 := htx.size; omega, fun z H10 S10 hz => ?_⟩
      have ls := ls.same S10
      have hj := hj.same S10
      have hdue := hdue.tups S10.tups
      have hzl : z.length = (progT (g :: rr)).txt.length := by rw [← hz]; exact (Array.length_toList).symm
      have htl1 : (progT (g :: rr)).txt.length ≤ 86000 := by have h1 := txt_len _ htx.ok; have h2 := htx.size; omega
      refine ⟨h, dl, z, rfl, ls.hd, by omega, fun H11 s kp11 hd11 hspc hsl => ?_⟩
      have tt11 := ls.hd.tups kp11
      have ls := ls.step kp11 hd11
      have hj := hj.tups tt11
      have hdue := hdue.tups tt11
      refine ⟨s, progT (g :: rr), rfl, by omega, lx_of htx.ok (by rw [← hz]; exact hspc), fun rv H12 S12 hrd => ?_⟩
      have ls := ls.same S12
      have hj := hj.same S12
      have hdue := hdue.tups S12.tups
      have ncp : Nice (progT (g :: rr)) := ⟨htx.ok, by have := htx.dep; omega⟩
      have jk := jud_ok hjc
      have ncj : Nice (progT (judgeP jt)) := ⟨jk.ok, by have := jk.dep; omega⟩
      refine ⟨_, rfl, _, rfl, ne_same hrd ls.rp ncp ⟨_, rfl, iteF ?_⟩⟩
      clear hd11 hspc hsl hz hzl kp11 tt11 S12 S10 S9
      have hjs : (progT (judgeP jt)).size ≤ 21 := by rw [progT_size]; have := jk.sz; omega
      have hjl := txt_len _ jk.ok
      refine ⟨_, rfl, _, rfl, progT (judgeP jt), .ref p4, rfl, hj, by omega, by omega, fun z2 H13 S13 hz2 => ?_⟩
      have ls := ls.same S13
      have hj := hj.same S13
      have hrd := hrd.same S13
      have hdue := hdue.tups S13.tups
      have hzl2 : z2.length = (progT (judgeP jt)).txt.length := by rw [← hz2]; exact (Array.length_toList).symm
      refine ⟨h, dl, z2, rfl, ls.hd, by omega, fun H14 s2 kp14 hd14 hspc hsl => ?_⟩
      have tt14 := ls.hd.tups kp14
      have ls := ls.step kp14 hd14
      have hj := hj.tups tt14
      have hrd := hrd.tups tt14
      have hdue := hdue.tups tt14
      refine ⟨s2, progT (judgeP jt), rfl, by omega, lx_of jk.ok (by rw [← hz2]; exact hspc), fun rv2 H15 S15 hrd2 => ?_⟩
      have ls := ls.same S15
      have hj := hj.same S15
      have hrd := hrd.same S15
      have hdue := hdue.tups S15.tups
      refine ⟨_, rfl, ne_same hrd2 hj ncj ⟨_, rfl, iteF ?_⟩⟩
      clear hd14 hspc hsl hz2 hzl2 kp14 tt14 S15 S13 hrd2
      rcases hdue with ⟨mm, n, t, da, dv, hrun, hn, hmm, hok, rfl, hdT, hdv⟩ | ⟨da, rfl, hdT⟩
      · refine ⟨_, rfl, da, _, _, _, rfl, rfl, hdT, at0, rfl, ?_⟩
        rw [decide_eq_true (show V.str "done" = V.str "done" from rfl)]
        refine ⟨_, rfl, iteF ?_⟩
        refine ⟨_, rfl, da, _, _, _, rfl, rfl, hdT, at1, dv, t, rfl, hdv, hok.dep, by have := hok.wid; omega, fun H16 b S16 hb => ⟨_, rfl, ?_⟩⟩
        cases b with
        | false => exact iteT (k _)
        | true =>
          have hsz := hb rfl
          clear hb
          refine iteF ?_
          have ls := ls.same S16
          have hj := hj.same S16
          have hrd := hrd.same S16
          have hdT := hdT.same S16
          have hdv := hdv.same S16
          have nt : Nice t := ⟨hok.ok, hok.dep⟩
          have hts : ∀ t ∈ ts, t.size ≤ 1000 := fun t ht => by have := (c6 t ht).size; have : vsz 2 = 13 := rfl; omega
          -- the program's run
          refine ⟨_, rfl, _, rfl, rv, L, cs, g, rr, ts, 2000, mm, n, t, rfl, hrd, ls.hL, ls.ry, by rw [c5, hgm], hgf.good, hgf.slim, by have := htx.size; omega, hts, hrun, hn, by omega, by omega, by have := hok.dep; omega, fun H17 r1 dx1 rv1 S17 hr1 hrv1 => ?_⟩
          have ls := ls.same S17
          have hj := hj.same S17
          have hrd := hrd.same S17
          have hdT := hdT.same S17
          have hdv := hdv.same S17
          refine ⟨_, rfl, r1, cR, dx1, _, _, rfl, hr1, TR.cl, TR.nKind, rfl, _, rfl, r1, cR, dx1, _, _, rfl, hr1, TR.cl, TR.nValue, rfl, _, rfl, r1, cR, dx1, _, _, rfl, hr1, TR.cl, TR.nSteps, rfl, (by show 3 ≤ sizeLine; decide), fun p5 hp5 => ⟨_, rfl, ?_⟩⟩
          have S18 := same_upd (o := .tup [.str "done", rv1, vint n]) hp5
          refine ne_out3 (SqT.of upd_same) (hdT.same S18) (hrv1.same S18) (hdv.same S18) nt ⟨_, rfl, iteF ?_⟩
          have ls := ls.same S18
          have hj := hj.same S18
          have hrd := hrd.same S18
          have hdT := hdT.same S18
          have hdv := hdv.same S18
          clear hr1 hrv1 S18 S17 S16 hp5
          generalize upd H17 p5 (.tup [.str "done", rv1, vint n]) = H18 at *
          -- the other program
          refine ⟨_, rfl, _, rfl, L, _, rfl, .inl (SqL.of ls.hL), h, dl, cs.length, rfl, by omega, ls.hd, fun H19 po vo kp19 hd19 hpo hgo => ?_⟩
          have tt19 := ls.hd.tups kp19
          have ls := ls.step kp19 hd19
          have hj := hj.tups tt19
          have hrd := hrd.tups tt19
          have hdT := hdT.tups tt19
          have hdv := hdv.tups tt19
          have hcm : cs.length = m := by omega
          rw [hcm] at hgo
          have hof := hgo.genF hm3
          have hoh := (hgo.facts hm3).1
          clear hgo kp19 hd19 tt19
          -- the pair
          obtain ⟨pj, js, ej, hjT, hjx⟩ := (show Rep K H19 (.l [Fn.t ⟨"claim", ["p"], .q jt⟩]) (.ref p4) from hj).l_eq
          cases ej
          obtain ⟨jc, js', rfl, hjc1, hjx⟩ := hjx.cons_eq
          obtain ⟨jca, jcx, rfl, hcT, hcx⟩ := (show Rep K H19 (.l [.w "claim", .l ((["p"] : List Str).map T.w), E.t (.q jt)]) jc from hjc1).l_eq
          obtain ⟨jc0, jr0, rfl, hjc0, hcx⟩ := hcx.cons_eq
          obtain ⟨jc1, jr1, rfl, hjc1', hcx⟩ := hcx.cons_eq
          obtain ⟨jc2, jr2, rfl, hjc2, hcx⟩ := hcx.cons_eq
          clear hcx hjx hjc1 hjc0 hjc1'
          refine ⟨_, rfl, _, rfl, (by show 2 ≤ sizeLine; decide), fun q1 hq1 => ⟨_, rfl, _, rfl, (by show 2 ≤ sizeLine; decide), fun q2 hq2 => ⟨(by show 2 ≤ sizeLine; decide), fun Lp hLp => ?_⟩⟩⟩
          have U1 := same_upd (o := .tup [rv, vo]) hq1
          have U2 := same_upd (o := .tup [vo, rv]) hq2
          have U3 := same_upd (o := .lst [.ref q1, .ref q2]) hLp
          have U := (U1.trans U2).trans U3
          have hq1T : SqT K (upd (upd (upd H19 q1 (.tup [rv, vo])) q2 (.tup [vo, rv])) Lp (.lst [.ref q1, .ref q2])) q1 [rv, vo] := SqT.same U3 (SqT.same U2 (SqT.of upd_same))
          have hq2T : SqT K (upd (upd (upd H19 q1 (.tup [rv, vo])) q2 (.tup [vo, rv])) Lp (.lst [.ref q1, .ref q2])) q2 [vo, rv] := SqT.same U3 (SqT.of upd_same)
          have hLp1 : upd (upd (upd H19 q1 (.tup [rv, vo])) q2 (.tup [vo, rv])) Lp (.lst [.ref q1, .ref q2]) Lp = some (.lst [.ref q1, .ref q2]) := upd_same
          have ls := ls.same U
          have hj := hj.same U
          have hrd := hrd.same U
          have hdT := hdT.same U
          have hdv := hdv.same U
          have hpo := hpo.same U
          have hjT := hjT.same U
          have hcT := hcT.same U
          have hjc2 := hjc2.same U
          clear U1 U2 U3 U hq1 hq2 hLp
          generalize upd (upd (upd H19 q1 (.tup [rv, vo])) q2 (.tup [vo, rv])) Lp (.lst [.ref q1, .ref q2]) = H20 at *
          refine ⟨_, rfl, p4, _, _, _, rfl, rfl, hjT, at0, jca, _, _, _, rfl, rfl, hcT, at2, (by show 0 ≤ sizeLine; decide), fun e1 he1 => ⟨(by show 2 ≤ sizeLine; decide), fun q3 hq3 => ?_⟩⟩
          have U1 := same_upd (o := .tup []) he1
          have U2 := same_upd (o := .tup [.str "quote", .ref e1]) hq3
          have U := U1.trans U2
          have hqn : Rep K (upd (upd H20 e1 (.tup [])) q3 (.tup [.str "quote", .ref e1])) (.l [.w sQuote, nil]) (.ref q3) := Rep.l (SqT.of upd_same) (.cons .w (.cons (Rep.l (SqT.same U2 (SqT.of upd_same)) .nil) .nil))
          have nq1 : Nice (.l [.w sQuote, jt]) := by
            rcases hjc with rfl | rfl
            · exact ⟨⟨wi.2.2.2.2.2.2, trivial, trivial⟩, by decide⟩
            · exact ⟨⟨wi.2.2.2.2.2.2, yes_ok, trivial⟩, by decide⟩
          have nq2 : Nice (.l [.w sQuote, nil]) := ⟨⟨wi.2.2.2.2.2.2, trivial, trivial⟩, by decide⟩
          have ls := ls.same U
          have hj := hj.same U
          have hrd := hrd.same U
          have hdT := hdT.same U
          have hdv := hdv.same U
          have hpo := hpo.same U
          have hjc2 := hjc2.same U
          have hq1T := hq1T.same U
          have hq2T := hq2T.same U
          have hLp1 := U _ _ hLp1
          clear U1 U2 U he1 hq3 hjT hcT
          generalize upd (upd H20 e1 (.tup [])) q3 (.tup [.str "quote", .ref e1]) = H21 at *
          have hgh : ∃ h r, g :: rr = h :: r ∧ h.ps.length = m := ⟨g, rr, rfl, hgm⟩
          obtain ⟨qx, np, yp, vn, vy, hat, hqx, hvn, hvy, hgn, hgy, hnh, hyh, hch⟩ : ∃ (qx : Addr) (np yp : Prog) (vn vy : V), atI [V.ref q1, V.ref q2] (if (!decide (T.l [.w sQuote, jt] = T.l [.w sQuote, nil])) = true then 1 else 0) = some (.ref qx) ∧ SqT K H21 qx [vn, vy] ∧ Rep K H21 (progT np) vn ∧ Rep K H21 (progT yp) vy ∧
              GenF np ∧ GenF yp ∧ (∃ h r, np = h :: r ∧ h.ps.length = m) ∧ (∃ h r, yp = h :: r ∧ h.ps.length = m) ∧ ((jt = nil ∧ g :: rr = np) ∨ (jt ≠ nil ∧ g :: rr = yp)) := by
            rcases hjc with rfl | rfl
            · exact ⟨q1, g :: rr, po, rv, vo, by rw [decide_eq_true rfl]; exact at0, hq1T, hrd, hpo, hgf, hof, hgh, hoh, .inl ⟨rfl, rfl⟩⟩
            · have hne : ¬ T.l [.w sQuote, yes] = T.l [.w sQuote, nil] := fun e => by simp [yes] at e
              exact ⟨q2, po, g :: rr, vo, rv, by rw [decide_eq_false hne]; exact at1, hq2T, hpo, hrd, hof, hgf, hoh, hgh, .inr ⟨fun e => by simp [yes] at e, rfl⟩⟩
          refine ne_rd (a := .l [.w sQuote, jt]) (b := .l [.w sQuote, nil]) hjc2 hqn nq1 nq2 (.inr ⟨_, rfl, Lp, _, _, .ref qx, rfl, rfl, SqL.of hLp1, hat, ?_⟩)
          have tr := trio_of hjc hgn hgy hm3 hnh hyh
          have hN : (joinL 0 [judgeP jt, np, yp]).length = 1 + np.length + yp.length := jl_len _ _ _
          have hnl := hgn.len
          have hyl := hgy.len
          -- the mirror
          refine ⟨_, rfl, _, rfl, qx, _, _, _, rfl, rfl, hqx, at0, _, rfl, qx, _, _, _, rfl, rfl, hqx, at1, ?_⟩
          refine ⟨.ref p4, vn, vy, judgeP jt, np, yp, m, mirG (judgeP jt) np yp m, joinL 0 [judgeP jt, np, yp], knP (judgeP jt) np yp m, rfl, hj, hvn, hvy, tr.gj, tr.gn, tr.gy, by show 1 + _ + _ < 80; omega, tr.hj, hnh, hyh, by omega, mirP_t _ _ _ _, mir_good tr, ?_, hN, kn_good tr, knP_t _ _ _ _, ?_, ?_⟩
          · show (xnames m).length + 1 = m + 1
            rw [xnames_len]
          · refine ⟨_, _, rfl, ?_, ?_, ?_⟩
            · show fname (renP (mirP (judgeP jt) np yp m) 0).length = _
              rw [renP_length]
              rfl
            · show (xnames m).length + 1 = m + 1
              rw [xnames_len]
            · rw [renP_length]
              rfl
          · intro mv H22 S22 hmv
            have hmv : Rep K H22 (progT (madeP (judgeP jt) np yp m)) mv := by rw [madeP_t]; exact hmv
            have ls := ls.same S22
            have hdT := hdT.same S22
            have hdv := hdv.same S22
            have hmk := made_pk tr
            have hmz := made_psz tr
            have hml : (madeP (judgeP jt) np yp m).length ≤ 90 := by rw [made_len]; have := tr.len; omega
            have hmok : (progT (madeP (judgeP jt) np yp m)).Ok := num_ok (made_num tr) hml hmk
            have hms := progT_size (madeP (judgeP jt) np yp m)
            have hmt := txt_len _ hmok
            refine ⟨progT (madeP (judgeP jt) np yp m), mv, rfl, hmv, by omega, by omega, fun z3 H23 S23 hz3 => ?_⟩
            have ls := ls.same S23
            have hdT := hdT.same S23
            have hdv := hdv.same S23
            have hzl3 : z3.length = (progT (madeP (judgeP jt) np yp m)).txt.length := by rw [← hz3]; exact (Array.length_toList).symm
            refine ⟨z3, progT (madeP (judgeP jt) np yp m), rfl, by omega, by rw [hz3]; exact lx_of hmok (Spc.refl _), fun mv2 H24 S24 hmv2 => ?_⟩
            have ls := ls.same S24
            have hdT := hdT.same S24
            have hdv := hdv.same S24
            obtain ⟨M', s', hrun2, hs', hM'⟩ := mir_runs tr (jt := jt) rfl (q := g :: rr) (h := g) (r := rr) hch rfl c5 hrun
            refine ⟨_, rfl, _, rfl, mv2, L, cs, madeG (judgeP jt) np yp m, knP (judgeP jt) np yp m, ts, 2100, M', s', t, rfl, hmv2, ls.hL, ls.ry, by show ts.length = (xnames m).length; rw [c5, xnames_len], made_good tr, slim_num (made_num tr) hml hmk, ?_, hts, hrun2, by omega, by omega, by omega, by have := hok.dep; omega, fun H25 r3 dx3 rv3 S25 hr3 hrv3 => ?_⟩
            · show (progT (madeP (judgeP jt) np yp m)).size ≤ 60000
              omega
            have hdT := hdT.same S25
            have hdv := hdv.same S25
            refine ⟨_, rfl, r3, cR, dx3, _, _, rfl, hr3, TR.cl, TR.nKind, rfl, _, rfl, r3, cR, dx3, _, _, rfl, hr3, TR.cl, TR.nValue, rfl, (by show 2 ≤ sizeLine; decide), fun p6 hp6 => ?_⟩
            have U1 := same_upd (o := .tup [.str "done", rv3]) hp6
            refine ⟨_, rfl, da, _, _, _, rfl, rfl, hdT.same U1, at1, (by show 2 ≤ sizeLine; decide), fun p7 hp7 => ?_⟩
            have U2 := same_upd (o := .tup [.str "done", dv]) hp7
            exact eq_out2 (SqT.same U2 (SqT.of upd_same)) (SqT.of upd_same) ((hrv3.same U1).same U2) ((hdv.same U1).same U2) nt (k _)
      · refine ⟨_, rfl, da, _, _, _, rfl, rfl, hdT, at0, rfl, ?_⟩
        rw [decide_eq_false (show ¬ V.str "tired" = V.str "done" by decide +kernel)]
        exact ⟨_, rfl, iteT (iteT (k _))⟩
end
end K46
/-! All defs together. -/
namespace K46
open PySem PySem.Spec PyProof.Rows L2

def HasD (K : PySem.W.Frag) (mg : Str → Option Value) (x : Str) (st : Stmt) (ps : List Str) : Prop := ∃ f fd, Dfn K mg x st ps f fd
def HasM (K : PySem.W.Frag) (C : Addr) (m q : Str) (st : Stmt) (ps : List Str) : Prop := ∃ f fd, MDf K C m q st ps f fd
section
variable {K : PySem.W.Frag} {h : Heap} {mg : Str → Option Value} {x q : Str} {st : Stmt} {ps : List Str} {f C : Addr} {oc : Value} {od an : Option Addr} {osl : Array (Option Value)} {kV doc pm cdv ct : Value}
theorem hasD_mk (X : K.In h) (G : h.Ns mainGlobals mg) (hb : ∀ fd, Fun K x x st f fd → Binds K fd ps []) (a : PySem.W.nsIn K mainGlobals x = some (some (.ref f))) (l : K.lookup f = some ⟨oc, od, .func (PySem.W.fnOf x x (defArgs st) (defBody st) (defScope st) .none kV doc pm an cdv ct), osl⟩)
    (c : PySem.W.codeIn K cdv x = true) (k : PySem.W.keepIn K (.ref f) = true) : HasD K mg x st ps :=
  ⟨f, _, fun_mk l c k, hb _ (fun_mk l c k), PySem.W.mg_of X G a⟩
theorem hasM_mk (X : K.In h) (hb : ∀ fd, Fun K x q st f fd → Binds K fd ps []) (a : PySem.W.findIn K (.ref C) x = some (some (.ref f))) (l : K.lookup f = some ⟨oc, od, .func (PySem.W.fnOf x q (defArgs st) (defBody st) (defScope st) .none kV doc pm an cdv ct), osl⟩)
    (c : PySem.W.codeIn K cdv q = true) (k : PySem.W.keepIn K (.ref f) = true) (i : PySem.W.isFn K (.ref f) = true) : HasM K C x q st ps :=
  ⟨f, _, fun_mk l c k, ⟨a, i, k⟩, hb _ (fun_mk l c k)⟩
theorem kbn_init {f : Addr} {fd : FuncData} (F : Fun K "__init__" "Machine.__init__" sMInit f fd) : KBn K fd ["self", "program", "inputs", "keeping"] 3 ["keeping"] (fun us ws => us ++ ws) (fun vs zs => vs ++ zs) := by
  obtain ⟨oc, od, kV, doc, pm, an, cdv, ct, osl, rfl, lk, hcd⟩ := F.ex
  refine ⟨fun s us ws X l1 l2 => ?_, fun r1 r2 => r1.append r2⟩
  match us, ws, l1, l2 with
  | [_, _, _], [_], _, _ => exact .of_eq rfl
end

theorem law_fin {P : Program} {w : World} {K : PySem.W.Frag} {mg : Str → Option Value} {cS cM cR fMI fRI dS aP aS fa : Addr} {fdMI fdRI fd : FuncData} (B : Bl mg) (C1 : Cn1 mg) (C2 : Cn2 K w mg dS) (TS : TxtS K mg cS) (TM : TxtM K mg cM) (TR : TxtR K cR) (TP : TxtP K mg aP) (TSp : TxtSp K mg aS) (hM : ∃ t, mg "MOST_INPUTS" = some (.int 8 t))
    (gS : mg "Store" = some (.ref cS)) (gM : mg "Machine" = some (.ref cM)) (gR : mg "Run" = some (.ref cR)) (mkS : PySem.W.makesIn K cS = true) (kpS : PySem.W.keepIn K (.ref cS) = true)
    (FM : Fun K "__init__" "Machine.__init__" sMInit fMI fdMI) (MkM : Mk K cM fMI) (FR : Fun K "__init__" "Run.__init__" sRInit fRI fdRI) (bR : Binds K fdRI ["self", "kind", "value", "steps"] []) (MkR : Mk K cR fRI)
    (DLaw : Dfn K mg "law" sLaw ["_law_script"] fa fd)
    (h_behind_run : HasD K mg "behind_run" sBehindRun ["text", "start", "signs"])
    (h_behind_word : HasD K mg "behind_word" sBehindWord ["text", "start"])
    (h_read_value : HasD K mg "read_value" sRead ["text"])
    (h_write_value : HasD K mg "write_value" sWrite ["value"])
    (h_is_word : HasD K mg "is_word" sIsWord ["value"])
    (h_has_head : HasD K mg "has_head" sHasHead ["function"])
    (h_counts_of : HasD K mg "counts_of" sCountsOf ["program"])
    (h_name_fits : HasD K mg "name_fits" sNameFits ["name", "names", "many"])
    (h_parameters_fit : HasD K mg "parameters_fit" sParametersFit ["parameters"])
    (h_body_fits : HasD K mg "body_fits" sBodyFits ["body", "parameters", "counts"])
    (h_check_program : HasD K mg "check_program" sCheckProgram ["value"])
    (h_inputs_of : HasD K mg "inputs_of" sInputsOf ["program"])
    (h_started : HasD K mg "started" sStarted ["program", "inputs", "keeping"])
    (h_run_program : HasD K mg "run_program" sRunProgram ["program", "inputs", "limit"])
    (h_made_name : HasD K mg "made_name" sMadeName ["number"])
    (h_made_parameters : HasD K mg "made_parameters" sMadeParameters ["many"])
    (h_quoted : HasD K mg "quoted" sQuoted ["value"])
    (h_with_main : HasD K mg "with_main" sWithMain ["functions", "parameters", "body"])
    (h_fill_function : HasD K mg "fill_function" sFillFunction ["main", "number", "value", "many"])
    (h_listed : HasD K mg "listed" sListed ["parts"])
    (h_filled_tree : HasD K mg "filled_tree" sFilledTree ["main", "number", "many"])
    (h_renamed_expression : HasD K mg "renamed_expression" sRenExpr ["expression", "names"])
    (h_check_inputs : HasD K mg "check_inputs" sCheckInputs ["programs", "many"])
    (h_renamed : HasD K mg "renamed" sRenamed ["program", "start"])
    (h_joined : HasD K mg "joined" sJoined ["programs"])
    (h_fill : HasD K mg "fill" sFill ["program", "value"])
    (h_know_own : HasD K mg "know_own" sKnowOwn ["program"])
    (h_mirror : HasD K mg "mirror" sMirror ["judge", "no", "yes"])
    (h__law_take : HasD K mg "_law_take" sTake ["_law_hand", "_law_many"])
    (h__law_draws : HasD K mg "_law_draws" sDraws ["_law_script", "_law_many"])
    (h__law_value : HasD K mg "_law_value" sValue ["_law_hand", "_law_depth"])
    (h__law_expression : HasD K mg "_law_expression" sExpr ["_law_hand", "_law_parameters", "_law_calls", "_law_depth"])
    (h__law_library : HasD K mg "_law_library" sLibrary [])
    (h__law_program : HasD K mg "_law_program" sProgram ["_law_hand", "_law_inputs"])
    (h__law_do : HasD K mg "_law_do" sLDo ["_law_word", "_law_found"])
    (h__law_small : HasD K mg "_law_small" sSmall ["_law_value_here"])
    (h__law_spaced : HasD K mg "_law_spaced" sSpaced ["_law_hand", "_law_text"])
    (h__law_run : HasD K mg "_law_run" sLRun ["_law_program_here", "_law_inputs", "_law_limit"])
    (h_Store_number_of : HasM K cS "number_of" "Store.number_of" sNumberOf ["self", "entry"])
    (h_Store___init__ : HasM K cS "__init__" "Store.__init__" sSInit ["self"])
    (h_Store_is_word : HasM K cS "is_word" "Store.is_word" sSIsWord ["self", "number"])
    (h_Store_first : HasM K cS "first" "Store.first" sFirst ["self", "number"])
    (h_Store_rest : HasM K cS "rest" "Store.rest" sRest ["self", "number"])
    (h_Store_pair_up : HasM K cS "pair_up" "Store.pair_up" sPairUp ["self", "item", "items"])
    (h_Store_items_of : HasM K cS "items_of" "Store.items_of" sItemsOf ["self", "number"])
    (h_Store_put : HasM K cS "put" "Store.put" sPut ["self", "value"])
    (h_Store_value_of : HasM K cS "value_of" "Store.value_of" sValueOf ["self", "number"])
    (h_Machine_is_done : HasM K cM "is_done" "Machine.is_done" sIsDone ["self"])
    (h_Machine_is_great : HasM K cM "is_great" "Machine.is_great" sIsGreat ["self"])
    (h_Machine_result : HasM K cM "result" "Machine.result" sResult ["self"])
    (h_Machine_do : HasM K cM "do" "Machine.do" sDo ["self", "word"])
    (h_Machine_begin : HasM K cM "begin" "Machine.begin" sBegin ["self", "name", "numbers"])
    (h_Machine_evaluate : HasM K cM "evaluate" "Machine.evaluate" sEvaluate ["self", "expression", "names"])
    (h_Machine_go_on : HasM K cM "go_on" "Machine.go_on" sGoOn ["self", "limit"]) :
    ∀ base : Heap, FnOk P w K mg base CX0 11 fa fd ["_law_script"] (spLaw K) := by
  intro base
  obtain ⟨f_behind_run, fd_behind_run, D_behind_run⟩ := h_behind_run
  obtain ⟨f_behind_word, fd_behind_word, D_behind_word⟩ := h_behind_word
  obtain ⟨f_read_value, fd_read_value, D_read_value⟩ := h_read_value
  obtain ⟨f_write_value, fd_write_value, D_write_value⟩ := h_write_value
  obtain ⟨f_is_word, fd_is_word, D_is_word⟩ := h_is_word
  obtain ⟨f_has_head, fd_has_head, D_has_head⟩ := h_has_head
  obtain ⟨f_counts_of, fd_counts_of, D_counts_of⟩ := h_counts_of
  obtain ⟨f_name_fits, fd_name_fits, D_name_fits⟩ := h_name_fits
  obtain ⟨f_parameters_fit, fd_parameters_fit, D_parameters_fit⟩ := h_parameters_fit
  obtain ⟨f_body_fits, fd_body_fits, D_body_fits⟩ := h_body_fits
  obtain ⟨f_check_program, fd_check_program, D_check_program⟩ := h_check_program
  obtain ⟨f_inputs_of, fd_inputs_of, D_inputs_of⟩ := h_inputs_of
  obtain ⟨f_started, fd_started, D_started⟩ := h_started
  obtain ⟨f_run_program, fd_run_program, D_run_program⟩ := h_run_program
  obtain ⟨f_made_name, fd_made_name, D_made_name⟩ := h_made_name
  obtain ⟨f_made_parameters, fd_made_parameters, D_made_parameters⟩ := h_made_parameters
  obtain ⟨f_quoted, fd_quoted, D_quoted⟩ := h_quoted
  obtain ⟨f_with_main, fd_with_main, D_with_main⟩ := h_with_main
  obtain ⟨f_fill_function, fd_fill_function, D_fill_function⟩ := h_fill_function
  obtain ⟨f_listed, fd_listed, D_listed⟩ := h_listed
  obtain ⟨f_filled_tree, fd_filled_tree, D_filled_tree⟩ := h_filled_tree
  obtain ⟨f_renamed_expression, fd_renamed_expression, D_renamed_expression⟩ := h_renamed_expression
  obtain ⟨f_check_inputs, fd_check_inputs, D_check_inputs⟩ := h_check_inputs
  obtain ⟨f_renamed, fd_renamed, D_renamed⟩ := h_renamed
  obtain ⟨f_joined, fd_joined, D_joined⟩ := h_joined
  obtain ⟨f_fill, fd_fill, D_fill⟩ := h_fill
  obtain ⟨f_know_own, fd_know_own, D_know_own⟩ := h_know_own
  obtain ⟨f_mirror, fd_mirror, D_mirror⟩ := h_mirror
  obtain ⟨f__law_take, fd__law_take, D__law_take⟩ := h__law_take
  obtain ⟨f__law_draws, fd__law_draws, D__law_draws⟩ := h__law_draws
  obtain ⟨f__law_value, fd__law_value, D__law_value⟩ := h__law_value
  obtain ⟨f__law_expression, fd__law_expression, D__law_expression⟩ := h__law_expression
  obtain ⟨f__law_library, fd__law_library, D__law_library⟩ := h__law_library
  obtain ⟨f__law_program, fd__law_program, D__law_program⟩ := h__law_program
  obtain ⟨f__law_do, fd__law_do, D__law_do⟩ := h__law_do
  obtain ⟨f__law_small, fd__law_small, D__law_small⟩ := h__law_small
  obtain ⟨f__law_spaced, fd__law_spaced, D__law_spaced⟩ := h__law_spaced
  obtain ⟨f__law_run, fd__law_run, D__law_run⟩ := h__law_run
  obtain ⟨f_Store_number_of, fd_Store_number_of, D_Store_number_of⟩ := h_Store_number_of
  obtain ⟨f_Store___init__, fd_Store___init__, D_Store___init__⟩ := h_Store___init__
  obtain ⟨f_Store_is_word, fd_Store_is_word, D_Store_is_word⟩ := h_Store_is_word
  obtain ⟨f_Store_first, fd_Store_first, D_Store_first⟩ := h_Store_first
  obtain ⟨f_Store_rest, fd_Store_rest, D_Store_rest⟩ := h_Store_rest
  obtain ⟨f_Store_pair_up, fd_Store_pair_up, D_Store_pair_up⟩ := h_Store_pair_up
  obtain ⟨f_Store_items_of, fd_Store_items_of, D_Store_items_of⟩ := h_Store_items_of
  obtain ⟨f_Store_put, fd_Store_put, D_Store_put⟩ := h_Store_put
  obtain ⟨f_Store_value_of, fd_Store_value_of, D_Store_value_of⟩ := h_Store_value_of
  obtain ⟨f_Machine_is_done, fd_Machine_is_done, D_Machine_is_done⟩ := h_Machine_is_done
  obtain ⟨f_Machine_is_great, fd_Machine_is_great, D_Machine_is_great⟩ := h_Machine_is_great
  obtain ⟨f_Machine_result, fd_Machine_result, D_Machine_result⟩ := h_Machine_result
  obtain ⟨f_Machine_do, fd_Machine_do, D_Machine_do⟩ := h_Machine_do
  obtain ⟨f_Machine_begin, fd_Machine_begin, D_Machine_begin⟩ := h_Machine_begin
  obtain ⟨f_Machine_evaluate, fd_Machine_evaluate, D_Machine_evaluate⟩ := h_Machine_evaluate
  obtain ⟨f_Machine_go_on, fd_Machine_go_on, D_Machine_go_on⟩ := h_Machine_go_on
  have G_behind_run := ok_behindRun (P := P) (w := w) (base := base) B D_behind_run
  have G_behind_word := ok_behindWord (P := P) (w := w) (base := base) B C1 D_behind_word D_behind_run G_behind_run
  have G_read_value := ok_read (P := P) (w := w) (base := base) B C1 D_read_value D_behind_run G_behind_run D_behind_word G_behind_word
  have G_write_value := ok_write (P := P) (w := w) (base := base) B D_write_value
  have G_is_word := ok_isWord (P := P) (w := w) (base := base) B D_is_word
  have G_has_head := ok_hasHead (P := P) (w := w) (base := base) B D_has_head D_is_word G_is_word
  have G_counts_of := ok_countsOf (P := P) (w := w) (base := base) B C2 D_counts_of D_has_head G_has_head
  have G_name_fits := ok_nameFits (P := P) (w := w) (base := base) B C2 D_name_fits
  have G_parameters_fit := ok_parametersFit (P := P) (w := w) (base := base) B C2 D_parameters_fit D_is_word G_is_word
  have G_body_fits := ok_bodyFits (P := P) (w := w) (base := base) B D_body_fits D_is_word G_is_word
  have G_check_program := ok_checkProgram (P := P) (w := w) (base := base) B D_check_program D_is_word (G_is_word.mono (show 1 ≤ 3 by decide)) D_counts_of G_counts_of D_has_head (G_has_head.mono (show 2 ≤ 3 by decide)) D_name_fits (G_name_fits.mono (show 1 ≤ 3 by decide)) D_parameters_fit (G_parameters_fit.mono (show 2 ≤ 3 by decide)) D_body_fits (G_body_fits.mono (show 2 ≤ 3 by decide))
  have G_inputs_of := ok_inputsOf (P := P) (w := w) (base := base) B D_inputs_of D_check_program G_check_program
  have G_Store_number_of := ok_numberOf (P := P) (w := w) (base := base) B TS D_Store_number_of
  have G_Store___init__ := ok_sInit (P := P) (w := w) (base := base) B TS D_Store___init__
  have G_Store_is_word := ok_sIsWord (P := P) (w := w) (base := base) B TS D_Store_is_word
  have G_Store_first := ok_first (P := P) (w := w) (base := base) B TS D_Store_first D_Store_is_word G_Store_is_word
  have G_Store_rest := ok_rest (P := P) (w := w) (base := base) B TS D_Store_rest D_Store_is_word G_Store_is_word
  have G_Store_pair_up := ok_pairUp (P := P) (w := w) (base := base) B TS D_Store_pair_up D_Store_is_word G_Store_is_word D_Store_number_of G_Store_number_of
  have G_Store_items_of := ok_itemsOf (P := P) (w := w) (base := base) B TS D_Store_items_of
  have G_Store_put := ok_put (P := P) (w := w) (base := base) B TS D_Store_put D_Store_number_of G_Store_number_of
  have G_Store_value_of := ok_valueOf (P := P) (w := w) (base := base) B TS D_Store_value_of D_Store_is_word G_Store_is_word D_Store_items_of G_Store_items_of
  have G_Machine_is_done := ok_isDone (cS := cS) (cM := cM) (P := P) (w := w) (base := base) B TM D_Machine_is_done
  have G_Machine_is_great := ok_isGreat (cS := cS) (cM := cM) (P := P) (w := w) (base := base) B TS TM D_Machine_is_great
  have G_Machine_result := ok_result (cS := cS) (cM := cM) (P := P) (w := w) (base := base) B TS TM D_Machine_result D_Store_value_of G_Store_value_of
  have G_Machine_do := ok_do (cS := cS) (cM := cM) (P := P) (w := w) (base := base) B TS TM D_Machine_do D_Store_first G_Store_first D_Store_rest G_Store_rest D_Store_is_word (G_Store_is_word.mono (show 1 ≤ 2 by decide)) D_Store_pair_up G_Store_pair_up
  have G_Machine_begin := ok_begin (cS := cS) (cM := cM) (P := P) (w := w) (base := base) B TS TM D_Machine_begin
  have G_Machine_evaluate := ok_evaluate (cS := cS) (cM := cM) (P := P) (w := w) (base := base) B TS TM TP D_Machine_evaluate D_Store_is_word G_Store_is_word D_Store_items_of G_Store_items_of
  have G_Machine_go_on := ok_goOn (cS := cS) (cM := cM) (P := P) (w := w) (base := base) B TS TM D_Machine_go_on D_Machine_evaluate (G_Machine_evaluate.mono (show 2 ≤ 3 by decide)) D_Machine_do G_Machine_do D_Machine_begin (G_Machine_begin.mono (show 1 ≤ 3 by decide))
  have G_Machine_init := ok_mInit (cS := cS) (cM := cM) (P := P) (w := w) (base := base) B TS TM FM ⟨mkS, D_Store___init__.m.at_, D_Store___init__.m.fn, kpS⟩ gS D_Store___init__.b (G_Store___init__.mono (show 1 ≤ 4 by decide)) D_Store_put (G_Store_put.mono (show 2 ≤ 5 by decide)) D_Store_items_of (G_Store_items_of.mono (show 1 ≤ 5 by decide)) D_Machine_begin (G_Machine_begin.mono (show 1 ≤ 5 by decide))
  have G_Run_init := ok_rInit (mg := mg) (P := P) (w := w) (base := base) TR FR
  have G_started := ok_started (cS := cS) (cM := cM) (P := P) (w := w) (base := base) B D_started D_check_program (G_check_program.mono (show 4 ≤ 7 by decide)) D_inputs_of (G_inputs_of.mono (show 5 ≤ 7 by decide)) MkM gM (kbn_init FM) G_Machine_init
  have G_run_program := ok_runProgram (cS := cS) (cM := cM) (P := P) (w := w) (base := base) B TM D_run_program D_started G_started D_Machine_go_on (G_Machine_go_on.mono (show 4 ≤ 8 by decide)) D_Machine_is_done (G_Machine_is_done.mono (show 1 ≤ 8 by decide)) D_Machine_is_great (G_Machine_is_great.mono (show 1 ≤ 8 by decide)) D_Machine_result (G_Machine_result.mono (show 3 ≤ 8 by decide)) MkR gR bR (G_Run_init.mono (show 1 ≤ 7 by decide))
  have G_made_name := ok_madeName (P := P) (w := w) (base := base) B D_made_name
  have G_made_parameters := ok_madeParameters (P := P) (w := w) (base := base) B D_made_parameters
  have G_quoted := ok_quoted (P := P) (w := w) (base := base) B D_quoted
  have G_with_main := ok_withMain (P := P) (w := w) (base := base) B D_with_main D_made_name G_made_name
  have G_fill_function := ok_fillFunction (P := P) (w := w) (base := base) B D_fill_function D_made_name G_made_name D_made_parameters G_made_parameters
  have G_listed := ok_listed (P := P) (w := w) (base := base) B D_listed D_quoted G_quoted
  have G_filled_tree := ok_filledTree (P := P) (w := w) (base := base) B D_filled_tree D_quoted (G_quoted.mono (show 1 ≤ 2 by decide)) D_listed G_listed D_made_name (G_made_name.mono (show 1 ≤ 2 by decide)) D_made_parameters (G_made_parameters.mono (show 1 ≤ 2 by decide))
  have G_renamed_expression := ok_renExpr (P := P) (w := w) (base := base) B TSp D_renamed_expression
  have G_check_inputs := ok_checkInputs (P := P) (w := w) (base := base) B hM D_check_inputs D_check_program (G_check_program.mono (show 4 ≤ 5 by decide)) D_inputs_of G_inputs_of
  have G_renamed := ok_renamed (P := P) (w := w) (base := base) B D_renamed D_check_program (G_check_program.mono (show 4 ≤ 5 by decide)) D_made_name (G_made_name.mono (show 1 ≤ 5 by decide)) D_renamed_expression (G_renamed_expression.mono (show 1 ≤ 5 by decide))
  have G_joined := ok_joined (P := P) (w := w) (base := base) B D_joined D_made_name (G_made_name.mono (show 1 ≤ 6 by decide)) D_renamed G_renamed
  have G_fill := ok_fill (P := P) (w := w) (base := base) B hM D_fill D_check_program (G_check_program.mono (show 4 ≤ 6 by decide)) D_inputs_of (G_inputs_of.mono (show 5 ≤ 6 by decide)) D_fill_function (G_fill_function.mono (show 2 ≤ 6 by decide))
  have G_know_own := ok_knowOwn (P := P) (w := w) (base := base) B hM D_know_own D_check_program (G_check_program.mono (show 4 ≤ 8 by decide)) D_inputs_of (G_inputs_of.mono (show 5 ≤ 8 by decide)) D_joined (G_joined.mono (show 7 ≤ 8 by decide)) D_made_name (G_made_name.mono (show 1 ≤ 8 by decide)) D_filled_tree (G_filled_tree.mono (show 3 ≤ 8 by decide)) D_made_parameters (G_made_parameters.mono (show 1 ≤ 8 by decide)) D_with_main (G_with_main.mono (show 2 ≤ 8 by decide)) D_fill (G_fill.mono (show 7 ≤ 8 by decide))
  have G_mirror := ok_mirror (P := P) (w := w) (base := base) B D_mirror D_check_program (G_check_program.mono (show 4 ≤ 9 by decide)) D_inputs_of (G_inputs_of.mono (show 5 ≤ 9 by decide)) D_check_inputs (G_check_inputs.mono (show 6 ≤ 9 by decide)) D_joined (G_joined.mono (show 7 ≤ 9 by decide)) D_made_parameters (G_made_parameters.mono (show 1 ≤ 9 by decide)) D_with_main (G_with_main.mono (show 2 ≤ 9 by decide)) D_know_own G_know_own
  have G__law_take := ok_take (P := P) (w := w) (base := base) B D__law_take
  have G__law_draws := ok_draws (P := P) (w := w) (base := base) B D__law_draws
  have G__law_value := ok_value (P := P) (w := w) (base := base) B D__law_value D__law_take G__law_take 2
  have G__law_expression := ok_expr (P := P) (w := w) (base := base) B D__law_expression D__law_take (G__law_take.mono (show 1 ≤ 4 by decide)) D__law_value G__law_value 3
  have G__law_library := ok_library (P := P) (w := w) (base := base) B D__law_library
  have G__law_program := ok_program (P := P) (w := w) (base := base) B D__law_program D__law_take (G__law_take.mono (show 1 ≤ 8 by decide)) D__law_library (G__law_library.mono (show 1 ≤ 8 by decide)) D__law_expression G__law_expression
  have G__law_do := ok_lDo (P := P) (w := w) (base := base) B D__law_do
  have G__law_small := ok_small (P := P) (w := w) (base := base) B D__law_small
  have G__law_spaced := ok_spaced (P := P) (w := w) (base := base) B D__law_spaced D__law_take G__law_take
  have G__law_run := ok_lRun (P := P) (w := w) (base := base) B D__law_run D__law_do G__law_do
  exact ok_law B TR DLaw D__law_draws (G__law_draws.mono (show 1 ≤ 10 by decide)) D__law_take (G__law_take.mono (show 1 ≤ 10 by decide)) D__law_program (G__law_program.mono (show 9 ≤ 10 by decide)) D__law_value (G__law_value.mono (show 4 ≤ 10 by decide)) D__law_run (G__law_run.mono (show 2 ≤ 10 by decide)) D_read_value (G_read_value.mono (show 3 ≤ 10 by decide)) D__law_spaced (G__law_spaced.mono (show 2 ≤ 10 by decide)) D_write_value (G_write_value.mono (show 1 ≤ 10 by decide)) D__law_small (G__law_small.mono (show 1 ≤ 10 by decide)) D_run_program (G_run_program.mono (show 9 ≤ 10 by decide)) D_mirror G_mirror
end K46
/-! ### the end -/
namespace K46
open PySem PySem.Spec PyProof.Rows L2
section
variable {K : PySem.W.Frag} {h : Heap} {mg : Str → Option Value} {w : World} {q : Str} {st : Stmt} {f C : Addr} {oc : Value} {od an : Option Addr} {osl : Array (Option Value)} {kV doc pm cdv ct : Value}
theorem con_int (X : K.In h) (G : h.Ns mainGlobals mg) {x : Str} {i : Int} {t : PySem.Tok} (a : PySem.W.nsIn K mainGlobals x = some (some (.int i t))) : ∃ t, mg x = some (.int i t) := ⟨t, PySem.W.mg_of X G a⟩
theorem con_str (X : K.In h) (G : h.Ns mainGlobals mg) {x z : Str} {t : PySem.Tok} (a : PySem.W.nsIn K mainGlobals x = some (some (.str z t))) : ∃ t, mg x = some (.str z t) := ⟨t, PySem.W.mg_of X G a⟩
theorem cls_mk {C : Addr} (pg : PySem.W.plainGet K C Str.empty = true) (hd : PySem.W.hasDictIn K C = true) (po : PySem.W.plainOver K C = true) (sa : PySem.W.findIn K (.ref C) "__setattr__" = some (some (.builtin "object.__setattr__"))) : Cls K C := ⟨pg, hd, po, sa⟩
theorem seq_mk {a : Addr} {o : Obj} {its : Array Value} {n : Nat} {xs : List V} (l : K.lookup a = some o) (c : o.cls = .type "tuple") (d : o.data = .seq its n) (s : its.size ≤ sizeLine) (v : Vals xs its.toList) : ∀ H, SqT K H a xs := fun _ => .inr ⟨o, its, n, l, c, d, s, v⟩
theorem specTab_nd : (specTab.map (·.1)).Nodup := by decide +kernel
theorem tab_mk {d : Addr} {es : Array DictEntry} {n : Nat} (l : K.lookup d = some ⟨.type "dict", none, .dict es n, #[]⟩) (v : Paired (fun (e : DictEntry) (p : Str × V) => (∃ t, e.key = .str p.1 t ∧ e.hash = PyData.keyHash w.params p.1) ∧ RelV p.2 e.val) es.toList specTab) (s : (d == sysModules) = false) : KTab K w d specTab :=
  ⟨es, n, l, v, s, specTab_nd, by decide⟩
def HasI (K : PySem.W.Frag) (C : Addr) (q : Str) (st : Stmt) : Prop := ∃ f fd, Fun K "__init__" q st f fd ∧ PySem.W.findIn K (.ref C) "__init__" = some (some (.ref f)) ∧ PySem.W.isFn K (.ref f) = true
theorem hasI_mk (a : PySem.W.findIn K (.ref C) "__init__" = some (some (.ref f))) (l : K.lookup f = some ⟨oc, od, .func (PySem.W.fnOf "__init__" q (defArgs st) (defBody st) (defScope st) .none kV doc pm an cdv ct), osl⟩)
    (c : PySem.W.codeIn K cdv q = true) (k : PySem.W.keepIn K (.ref f) = true) (i : PySem.W.isFn K (.ref f) = true) : HasI K C q st := ⟨f, _, fun_mk l c k, a, i⟩
def HasL (K : PySem.W.Frag) (mg : Str → Option Value) : Prop := ∃ f fd, Dfn K mg "law" sLaw ["_law_script"] f fd ∧ ∀ (s : Shared) (u : Value), BindsTo s fd ⟨[u], []⟩ [("_law_script", u)]
theorem hasL_mk (X : K.In h) (G : h.Ns mainGlobals mg) (a : PySem.W.nsIn K mainGlobals "law" = some (some (.ref f))) (l : K.lookup f = some ⟨oc, od, .func (PySem.W.fnOf "law" "law" (defArgs sLaw) (defBody sLaw) (defScope sLaw) .none kV doc pm an cdv ct), osl⟩)
    (c : PySem.W.codeIn K cdv "law" = true) (k : PySem.W.keepIn K (.ref f) = true) : HasL K mg :=
  ⟨f, _, ⟨fun_mk l c k, (fun_mk l c k).binds (ps := ["_law_script"]) fun _ _ _ _ _ _ us hl => match us, hl with | [_], _ => rfl, PySem.W.mg_of X G a⟩, fun s u => .of_eq rfl⟩
end
theorem walk {l : PySem.W.OpenLaw} {q : Program} {loose : List Str} {XP : (Str → Option Value) → Heap → Prop} {YP : World → Heap → Prop} {d : DefRec} {K : Params → PySem.W.Frag} (hn : l.most = some 63) (hdf : d.params.defaults = [])
    (hY : ∀ (w : World) (h : Heap), YP w h → (K w.params).In h)
    (F : ∀ (w : World) (mg : Str → Option Value) (fa : Addr) (h : Heap), (K w.params).In h → h.Ns mainGlobals mg → mg d.name = some (.ref fa) →
      ∃ fd : FuncData, (∀ (s : Shared) (u : Value), BindsTo s fd ⟨[u], []⟩ [("_law_script", u)]) ∧ ∀ base : Heap, (K w.params).In base → base.Ns mainGlobals mg → FnOk l.prog w (K w.params) mg base CX0 11 fa fd ["_law_script"] (spLaw (K w.params))) :
    PySem.W.WalkO q loose XP YP l.row.toRowW d [] (fun f vs => PySem.call f vs) :=
  L2.walk_of (n := 63) (k := 11) (x := "_law_script") (CX := fun _ => CX0) (sp := fun w => spLaw (K w.params)) hn (by decide) hdf ⟨rfl, by decide, by decide⟩ hY F (fun _ _ a ns hl _ hS => ⟨a, ns, rfl, hS, hl, fun _ => rfl⟩) fun _ _ _ _ _ z => z
theorem all_mk {P : Program} {w : World} {K : PySem.W.Frag} {mg : Str → Option Value} {h : Heap} {fa cS cM cR aP aS dS : Addr} (X : K.In h) (G : h.Ns mainGlobals mg) (hfa : mg "law" = some (.ref fa))
    (b_len : PySem.W.nsIn K mainGlobals "len" = some none)
    (b_isinstance : PySem.W.nsIn K mainGlobals "isinstance" = some none)
    (b_str : PySem.W.nsIn K mainGlobals "str" = some none)
    (b_tuple : PySem.W.nsIn K mainGlobals "tuple" = some none)
    (b_range : PySem.W.nsIn K mainGlobals "range" = some none)
    (b_reversed : PySem.W.nsIn K mainGlobals "reversed" = some none)
    (b_zip : PySem.W.nsIn K mainGlobals "zip" = some none)
    (b_enumerate : PySem.W.nsIn K mainGlobals "enumerate" = some none)
    (b_dict : PySem.W.nsIn K mainGlobals "dict" = some none)
    (b_int : PySem.W.nsIn K mainGlobals "int" = some none)
    (b_abs : PySem.W.nsIn K mainGlobals "abs" = some none)
    (b_min : PySem.W.nsIn K mainGlobals "min" = some none)
    (b_max : PySem.W.nsIn K mainGlobals "max" = some none)
    (b_list : PySem.W.nsIn K mainGlobals "list" = some none)
    (k_EMPTY : ∃ t, mg "EMPTY" = some (.int 0 t))
    (k_MOST_PARTS : ∃ t, mg "MOST_PARTS" = some (.int 200000 t))
    (k_MOST_DEPTH : ∃ t, mg "MOST_DEPTH" = some (.int 200 t))
    (k_MOST_SIGNS : ∃ t, mg "MOST_SIGNS" = some (.int 12 t))
    (k_MOST_PARAMETERS : ∃ t, mg "MOST_PARAMETERS" = some (.int 12 t))
    (k_MOST_INPUTS : ∃ t, mg "MOST_INPUTS" = some (.int 8 t))
    (k_LETTERS : ∃ t, mg "LETTERS" = some (.str "abcdefghijklmnopqrstuvwxyz" t))
    (k_FIGURES_texts : ∃ t, mg "FIGURES_texts" = some (.str "0123456789" t))
    (k_BETWEEN : ∃ t, mg "BETWEEN" = some (.str " \n" t))
    (k_FIGURES_programs : ∃ t, mg "FIGURES_programs" = some (.str "0123456789" t))
    (a_Store : PySem.W.nsIn K mainGlobals "Store" = some (some (.ref cS)))
    (a_Machine : PySem.W.nsIn K mainGlobals "Machine" = some (some (.ref cM)))
    (a_Run : PySem.W.nsIn K mainGlobals "Run" = some (some (.ref cR)))
    (cl_Store : Cls K cS)
    (nS_entries : PySem.W.findIn K (.ref cS) "entries" = some none)
    (nS_numbers : PySem.W.findIn K (.ref cS) "numbers" = some none)
    (nS_sizes : PySem.W.findIn K (.ref cS) "sizes" = some none)
    (nS_depths : PySem.W.findIn K (.ref cS) "depths" = some none)
    (mk_Store : PySem.W.makesIn K cS = true)
    (kp_Store : PySem.W.keepIn K (.ref cS) = true)
    (cl_Machine : Cls K cM)
    (nM_store : PySem.W.findIn K (.ref cM) "store" = some none)
    (nM_yes : PySem.W.findIn K (.ref cM) "yes" = some none)
    (nM_functions : PySem.W.findIn K (.ref cM) "functions" = some none)
    (nM_keeping : PySem.W.findIn K (.ref cM) "keeping" = some none)
    (nM_kept : PySem.W.findIn K (.ref cM) "kept" = some none)
    (nM_pair : PySem.W.findIn K (.ref cM) "pair" = some none)
    (nM_steps : PySem.W.findIn K (.ref cM) "steps" = some none)
    (nM_found : PySem.W.findIn K (.ref cM) "found" = some none)
    (nM_todo : PySem.W.findIn K (.ref cM) "todo" = some none)
    (mk_Machine : PySem.W.makesIn K cM = true)
    (kp_Machine : PySem.W.keepIn K (.ref cM) = true)
    (cl_Run : Cls K cR)
    (nR_kind : PySem.W.findIn K (.ref cR) "kind" = some none)
    (nR_value : PySem.W.findIn K (.ref cR) "value" = some none)
    (nR_steps : PySem.W.findIn K (.ref cR) "steps" = some none)
    (mk_Run : PySem.W.makesIn K cR = true)
    (kp_Run : PySem.W.keepIn K (.ref cR) = true)
    (a_PLAIN : PySem.W.nsIn K mainGlobals "PLAIN" = some (some (.ref aP)))
    (a_SPECIAL : PySem.W.nsIn K mainGlobals "SPECIAL" = some (some (.ref aS)))
    (a_SPECIAL_WORDS : PySem.W.nsIn K mainGlobals "SPECIAL_WORDS" = some (some (.ref dS)))
    (t_PLAIN : ∀ H, SqT K H aP plainVs)
    (t_SPECIAL : ∀ H, SqT K H aS (spec7.map V.str))
    (t_SPECIAL_WORDS : KTab K w dS specTab)
    (d_behind_run : HasD K mg "behind_run" sBehindRun ["text", "start", "signs"])
    (d_behind_word : HasD K mg "behind_word" sBehindWord ["text", "start"])
    (d_read_value : HasD K mg "read_value" sRead ["text"])
    (d_write_value : HasD K mg "write_value" sWrite ["value"])
    (d_is_word : HasD K mg "is_word" sIsWord ["value"])
    (d_has_head : HasD K mg "has_head" sHasHead ["function"])
    (d_counts_of : HasD K mg "counts_of" sCountsOf ["program"])
    (d_name_fits : HasD K mg "name_fits" sNameFits ["name", "names", "many"])
    (d_parameters_fit : HasD K mg "parameters_fit" sParametersFit ["parameters"])
    (d_body_fits : HasD K mg "body_fits" sBodyFits ["body", "parameters", "counts"])
    (d_check_program : HasD K mg "check_program" sCheckProgram ["value"])
    (d_inputs_of : HasD K mg "inputs_of" sInputsOf ["program"])
    (d_started : HasD K mg "started" sStarted ["program", "inputs", "keeping"])
    (d_run_program : HasD K mg "run_program" sRunProgram ["program", "inputs", "limit"])
    (d_made_name : HasD K mg "made_name" sMadeName ["number"])
    (d_made_parameters : HasD K mg "made_parameters" sMadeParameters ["many"])
    (d_quoted : HasD K mg "quoted" sQuoted ["value"])
    (d_with_main : HasD K mg "with_main" sWithMain ["functions", "parameters", "body"])
    (d_fill_function : HasD K mg "fill_function" sFillFunction ["main", "number", "value", "many"])
    (d_listed : HasD K mg "listed" sListed ["parts"])
    (d_filled_tree : HasD K mg "filled_tree" sFilledTree ["main", "number", "many"])
    (d_renamed_expression : HasD K mg "renamed_expression" sRenExpr ["expression", "names"])
    (d_check_inputs : HasD K mg "check_inputs" sCheckInputs ["programs", "many"])
    (d_renamed : HasD K mg "renamed" sRenamed ["program", "start"])
    (d_joined : HasD K mg "joined" sJoined ["programs"])
    (d_fill : HasD K mg "fill" sFill ["program", "value"])
    (d_know_own : HasD K mg "know_own" sKnowOwn ["program"])
    (d_mirror : HasD K mg "mirror" sMirror ["judge", "no", "yes"])
    (d__law_take : HasD K mg "_law_take" sTake ["_law_hand", "_law_many"])
    (d__law_draws : HasD K mg "_law_draws" sDraws ["_law_script", "_law_many"])
    (d__law_value : HasD K mg "_law_value" sValue ["_law_hand", "_law_depth"])
    (d__law_expression : HasD K mg "_law_expression" sExpr ["_law_hand", "_law_parameters", "_law_calls", "_law_depth"])
    (d__law_library : HasD K mg "_law_library" sLibrary [])
    (d__law_program : HasD K mg "_law_program" sProgram ["_law_hand", "_law_inputs"])
    (d__law_do : HasD K mg "_law_do" sLDo ["_law_word", "_law_found"])
    (d__law_small : HasD K mg "_law_small" sSmall ["_law_value_here"])
    (d__law_spaced : HasD K mg "_law_spaced" sSpaced ["_law_hand", "_law_text"])
    (d__law_run : HasD K mg "_law_run" sLRun ["_law_program_here", "_law_inputs", "_law_limit"])
    (m_Store_number_of : HasM K cS "number_of" "Store.number_of" sNumberOf ["self", "entry"])
    (m_Store___init__ : HasM K cS "__init__" "Store.__init__" sSInit ["self"])
    (m_Store_is_word : HasM K cS "is_word" "Store.is_word" sSIsWord ["self", "number"])
    (m_Store_first : HasM K cS "first" "Store.first" sFirst ["self", "number"])
    (m_Store_rest : HasM K cS "rest" "Store.rest" sRest ["self", "number"])
    (m_Store_pair_up : HasM K cS "pair_up" "Store.pair_up" sPairUp ["self", "item", "items"])
    (m_Store_items_of : HasM K cS "items_of" "Store.items_of" sItemsOf ["self", "number"])
    (m_Store_put : HasM K cS "put" "Store.put" sPut ["self", "value"])
    (m_Store_value_of : HasM K cS "value_of" "Store.value_of" sValueOf ["self", "number"])
    (m_Machine_is_done : HasM K cM "is_done" "Machine.is_done" sIsDone ["self"])
    (m_Machine_is_great : HasM K cM "is_great" "Machine.is_great" sIsGreat ["self"])
    (m_Machine_result : HasM K cM "result" "Machine.result" sResult ["self"])
    (m_Machine_do : HasM K cM "do" "Machine.do" sDo ["self", "word"])
    (m_Machine_begin : HasM K cM "begin" "Machine.begin" sBegin ["self", "name", "numbers"])
    (m_Machine_evaluate : HasM K cM "evaluate" "Machine.evaluate" sEvaluate ["self", "expression", "names"])
    (m_Machine_go_on : HasM K cM "go_on" "Machine.go_on" sGoOn ["self", "limit"])
    (i_Machine : HasI K cM "Machine.__init__" sMInit)
    (i_Run : HasI K cR "Run.__init__" sRInit)
    (d_law : HasL K mg) :
    ∃ fd : FuncData, (∀ (s : Shared) (u : Value), BindsTo s fd ⟨[u], []⟩ [("_law_script", u)]) ∧ ∀ base : Heap, K.In base → base.Ns mainGlobals mg → FnOk P w K mg base CX0 11 fa fd ["_law_script"] (spLaw K) := by
  obtain ⟨f, fd, DL, hb⟩ := d_law
  have e := hfa.symm.trans DL.g
  cases e
  obtain ⟨fM, fdM, FM, iM, jM⟩ := i_Machine
  obtain ⟨fR, fdR, FR, iR, jR⟩ := i_Run
  have B : Bl mg := ⟨PySem.W.mg_none_of X G b_len, PySem.W.mg_none_of X G b_isinstance, PySem.W.mg_none_of X G b_str, PySem.W.mg_none_of X G b_tuple, PySem.W.mg_none_of X G b_range, PySem.W.mg_none_of X G b_reversed, PySem.W.mg_none_of X G b_zip, PySem.W.mg_none_of X G b_enumerate, PySem.W.mg_none_of X G b_dict, PySem.W.mg_none_of X G b_int, PySem.W.mg_none_of X G b_abs, PySem.W.mg_none_of X G b_min, PySem.W.mg_none_of X G b_max, PySem.W.mg_none_of X G b_list⟩
  refine ⟨fd, hb, fun base _ _ => ?_⟩
  exact law_fin B ⟨k_LETTERS, k_FIGURES_texts, k_BETWEEN, k_MOST_SIGNS⟩ ⟨PySem.W.mg_of X G a_SPECIAL_WORDS, t_SPECIAL_WORDS, k_FIGURES_programs, k_MOST_PARAMETERS⟩ ⟨cl_Store, nS_entries, nS_numbers, nS_sizes, nS_depths, k_EMPTY, k_MOST_PARTS, k_MOST_DEPTH⟩
    ⟨cl_Machine, nM_store, nM_yes, nM_functions, nM_keeping, nM_kept, nM_pair, nM_steps, nM_found, nM_todo⟩ ⟨cl_Run, nR_kind, nR_value, nR_steps⟩ ⟨PySem.W.mg_of X G a_PLAIN, t_PLAIN⟩ ⟨PySem.W.mg_of X G a_SPECIAL, t_SPECIAL⟩ k_MOST_INPUTS
    (PySem.W.mg_of X G a_Store) (PySem.W.mg_of X G a_Machine) (PySem.W.mg_of X G a_Run) mk_Store kp_Store FM ⟨mk_Machine, iM, jM, kp_Machine⟩ FR (FR.binds (ps := ["self", "kind", "value", "steps"]) fun _ _ _ _ _ _ us hl => match us, hl with | [_, _, _, _], _ => rfl) ⟨mk_Run, iR, jR, kp_Run⟩ DL
    d_behind_run d_behind_word d_read_value d_write_value d_is_word d_has_head d_counts_of d_name_fits d_parameters_fit d_body_fits d_check_program d_inputs_of d_started d_run_program d_made_name d_made_parameters d_quoted d_with_main d_fill_function d_listed d_filled_tree d_renamed_expression d_check_inputs d_renamed d_joined d_fill d_know_own d_mirror d__law_take d__law_draws d__law_value d__law_expression d__law_library d__law_program d__law_do d__law_small d__law_spaced d__law_run m_Store_number_of m_Store___init__ m_Store_is_word m_Store_first m_Store_rest m_Store_pair_up m_Store_items_of m_Store_put m_Store_value_of m_Machine_is_done m_Machine_is_great m_Machine_result m_Machine_do m_Machine_begin m_Machine_evaluate m_Machine_go_on base
end K46
open PySem PySem.W PyProof.Rows in
set_option maxRecDepth 100000 in
set_option maxHeartbeats 0 in
theorem PySem.Challenge.cw_ownglass_k46_whole_texts_to_runs_holds : PySem.Challenge.rw_ownglass_k46_whole_texts_to_runs.Holds := by
  refine k46head ?_
  k_fill
  refine K46.walk (l := PySem.Challenge.rw_ownglass_k46_whole_texts_to_runs) rfl rfl (fun w h Y => PySem.W.kIn_of Y) ?F
  case F =>
    intro w mg fa h KX G hmg
    refine' K46.all_mk KX G hmg ?b_len ?b_isinstance ?b_str ?b_tuple ?b_range ?b_reversed ?b_zip ?b_enumerate ?b_dict ?b_int ?b_abs ?b_min ?b_max ?b_list ?k_EMPTY ?k_MOST_PARTS ?k_MOST_DEPTH ?k_MOST_SIGNS ?k_MOST_PARAMETERS ?k_MOST_INPUTS ?k_LETTERS ?k_FIGURES_texts ?k_BETWEEN ?k_FIGURES_programs ?a_Store ?a_Machine ?a_Run ?cl_Store ?nS_entries ?nS_numbers ?nS_sizes ?nS_depths ?mk_Store ?kp_Store ?cl_Machine ?nM_store ?nM_yes ?nM_functions ?nM_keeping ?nM_kept ?nM_pair ?nM_steps ?nM_found ?nM_todo ?mk_Machine ?kp_Machine ?cl_Run ?nR_kind ?nR_value ?nR_steps ?mk_Run ?kp_Run ?a_PLAIN ?a_SPECIAL ?a_SPECIAL_WORDS ?t_PLAIN ?t_SPECIAL ?t_SPECIAL_WORDS ?d_behind_run ?d_behind_word ?d_read_value ?d_write_value ?d_is_word ?d_has_head ?d_counts_of ?d_name_fits ?d_parameters_fit ?d_body_fits ?d_check_program ?d_inputs_of ?d_started ?d_run_program ?d_made_name ?d_made_parameters ?d_quoted ?d_with_main ?d_fill_function ?d_listed ?d_filled_tree ?d_renamed_expression ?d_check_inputs ?d_renamed ?d_joined ?d_fill ?d_know_own ?d_mirror ?d__law_take ?d__law_draws ?d__law_value ?d__law_expression ?d__law_library ?d__law_program ?d__law_do ?d__law_small ?d__law_spaced ?d__law_run ?m_Store_number_of ?m_Store___init__ ?m_Store_is_word ?m_Store_first ?m_Store_rest ?m_Store_pair_up ?m_Store_items_of ?m_Store_put ?m_Store_value_of ?m_Machine_is_done ?m_Machine_is_great ?m_Machine_result ?m_Machine_do ?m_Machine_begin ?m_Machine_evaluate ?m_Machine_go_on ?i_Machine ?i_Run ?d_law
    (case b_len => k_is)
    (case b_isinstance => k_is)
    (case b_str => k_is)
    (case b_tuple => k_is)
    (case b_range => k_is)
    (case b_reversed => k_is)
    (case b_zip => k_is)
    (case b_enumerate => k_is)
    (case b_dict => k_is)
    (case b_int => k_is)
    (case b_abs => k_is)
    (case b_min => k_is)
    (case b_max => k_is)
    (case b_list => k_is)
    (case k_EMPTY => refine' K46.con_int KX G ?a; (case a => k_is))
    (case k_MOST_PARTS => refine' K46.con_int KX G ?a; (case a => k_is))
    (case k_MOST_DEPTH => refine' K46.con_int KX G ?a; (case a => k_is))
    (case k_MOST_SIGNS => refine' K46.con_int KX G ?a; (case a => k_is))
    (case k_MOST_PARAMETERS => refine' K46.con_int KX G ?a; (case a => k_is))
    (case k_MOST_INPUTS => refine' K46.con_int KX G ?a; (case a => k_is))
    (case k_LETTERS => refine' K46.con_str KX G ?a; (case a => k_is))
    (case k_FIGURES_texts => refine' K46.con_str KX G ?a; (case a => k_is))
    (case k_BETWEEN => refine' K46.con_str KX G ?a; (case a => k_is))
    (case k_FIGURES_programs => refine' K46.con_str KX G ?a; (case a => k_is))
    (case a_Store => k_is)
    (case a_Machine => k_is)
    (case a_Run => k_is)
    (case cl_Store => refine' K46.cls_mk ?pg ?hd ?po ?sa; (case pg => k_is); (case hd => k_is); (case po => k_is); (case sa => k_is))
    (case nS_entries => k_is)
    (case nS_numbers => k_is)
    (case nS_sizes => k_is)
    (case nS_depths => k_is)
    (case mk_Store => k_is)
    (case kp_Store => k_is)
    (case cl_Machine => refine' K46.cls_mk ?pg ?hd ?po ?sa; (case pg => k_is); (case hd => k_is); (case po => k_is); (case sa => k_is))
    (case nM_store => k_is)
    (case nM_yes => k_is)
    (case nM_functions => k_is)
    (case nM_keeping => k_is)
    (case nM_kept => k_is)
    (case nM_pair => k_is)
    (case nM_steps => k_is)
    (case nM_found => k_is)
    (case nM_todo => k_is)
    (case mk_Machine => k_is)
    (case kp_Machine => k_is)
    (case cl_Run => refine' K46.cls_mk ?pg ?hd ?po ?sa; (case pg => k_is); (case hd => k_is); (case po => k_is); (case sa => k_is))
    (case nR_kind => k_is)
    (case nR_value => k_is)
    (case nR_steps => k_is)
    (case mk_Run => k_is)
    (case kp_Run => k_is)
    (case a_PLAIN => k_is)
    (case a_SPECIAL => k_is)
    (case a_SPECIAL_WORDS => k_is)
    (case t_PLAIN => refine' K46.seq_mk ?l ?c ?d ?s ?v; (case l => k_is); (case c => rfl); (case d => rfl); (case s => decide); (case v => exact .cons ⟨_, rfl⟩ (.cons ⟨_, rfl⟩ (.cons ⟨_, rfl⟩ (.cons ⟨_, rfl⟩ (.cons ⟨_, rfl⟩ (.nil)))))))
    (case t_SPECIAL => refine' K46.seq_mk ?l ?c ?d ?s ?v; (case l => k_is); (case c => rfl); (case d => rfl); (case s => decide); (case v => exact .cons ⟨_, rfl⟩ (.cons ⟨_, rfl⟩ (.cons ⟨_, rfl⟩ (.cons ⟨_, rfl⟩ (.cons ⟨_, rfl⟩ (.cons ⟨_, rfl⟩ (.cons ⟨_, rfl⟩ (.nil)))))))))
    (case t_SPECIAL_WORDS => refine' K46.tab_mk ?l ?v ?s; (case l => k_is); (case v => exact .cons ⟨⟨_, rfl, rfl⟩, ⟨_, rfl⟩⟩ (.cons ⟨⟨_, rfl, rfl⟩, ⟨_, rfl⟩⟩ (.cons ⟨⟨_, rfl, rfl⟩, ⟨_, rfl⟩⟩ (.cons ⟨⟨_, rfl, rfl⟩, ⟨_, rfl⟩⟩ (.cons ⟨⟨_, rfl, rfl⟩, ⟨_, rfl⟩⟩ (.cons ⟨⟨_, rfl, rfl⟩, ⟨_, rfl⟩⟩ (.cons ⟨⟨_, rfl, rfl⟩, ⟨_, rfl⟩⟩ (.nil)))))))); (case s => decide))
    (case d_behind_run => refine' K46.hasD_mk KX G (fun _ F => F.binds (ps := ["text", "start", "signs"]) fun _ _ _ _ _ _ us hl => match us, hl with | [_, _, _], _ => rfl) ?a ?l ?c ?k; (case a => k_is); (case l => k_is); (case c => k_is); (case k => k_is))
    (case d_behind_word => refine' K46.hasD_mk KX G (fun _ F => F.binds (ps := ["text", "start"]) fun _ _ _ _ _ _ us hl => match us, hl with | [_, _], _ => rfl) ?a ?l ?c ?k; (case a => k_is); (case l => k_is); (case c => k_is); (case k => k_is))
    (case d_read_value => refine' K46.hasD_mk KX G (fun _ F => F.binds (ps := ["text"]) fun _ _ _ _ _ _ us hl => match us, hl with | [_], _ => rfl) ?a ?l ?c ?k; (case a => k_is); (case l => k_is); (case c => k_is); (case k => k_is))
    (case d_write_value => refine' K46.hasD_mk KX G (fun _ F => F.binds (ps := ["value"]) fun _ _ _ _ _ _ us hl => match us, hl with | [_], _ => rfl) ?a ?l ?c ?k; (case a => k_is); (case l => k_is); (case c => k_is); (case k => k_is))
    (case d_is_word => refine' K46.hasD_mk KX G (fun _ F => F.binds (ps := ["value"]) fun _ _ _ _ _ _ us hl => match us, hl with | [_], _ => rfl) ?a ?l ?c ?k; (case a => k_is); (case l => k_is); (case c => k_is); (case k => k_is))
    (case d_has_head => refine' K46.hasD_mk KX G (fun _ F => F.binds (ps := ["function"]) fun _ _ _ _ _ _ us hl => match us, hl with | [_], _ => rfl) ?a ?l ?c ?k; (case a => k_is); (case l => k_is); (case c => k_is); (case k => k_is))
    (case d_counts_of => refine' K46.hasD_mk KX G (fun _ F => F.binds (ps := ["program"]) fun _ _ _ _ _ _ us hl => match us, hl with | [_], _ => rfl) ?a ?l ?c ?k; (case a => k_is); (case l => k_is); (case c => k_is); (case k => k_is))
    (case d_name_fits => refine' K46.hasD_mk KX G (fun _ F => F.binds (ps := ["name", "names", "many"]) fun _ _ _ _ _ _ us hl => match us, hl with | [_, _, _], _ => rfl) ?a ?l ?c ?k; (case a => k_is); (case l => k_is); (case c => k_is); (case k => k_is))
    (case d_parameters_fit => refine' K46.hasD_mk KX G (fun _ F => F.binds (ps := ["parameters"]) fun _ _ _ _ _ _ us hl => match us, hl with | [_], _ => rfl) ?a ?l ?c ?k; (case a => k_is); (case l => k_is); (case c => k_is); (case k => k_is))
    (case d_body_fits => refine' K46.hasD_mk KX G (fun _ F => F.binds (ps := ["body", "parameters", "counts"]) fun _ _ _ _ _ _ us hl => match us, hl with | [_, _, _], _ => rfl) ?a ?l ?c ?k; (case a => k_is); (case l => k_is); (case c => k_is); (case k => k_is))
    (case d_check_program => refine' K46.hasD_mk KX G (fun _ F => F.binds (ps := ["value"]) fun _ _ _ _ _ _ us hl => match us, hl with | [_], _ => rfl) ?a ?l ?c ?k; (case a => k_is); (case l => k_is); (case c => k_is); (case k => k_is))
    (case d_inputs_of => refine' K46.hasD_mk KX G (fun _ F => F.binds (ps := ["program"]) fun _ _ _ _ _ _ us hl => match us, hl with | [_], _ => rfl) ?a ?l ?c ?k; (case a => k_is); (case l => k_is); (case c => k_is); (case k => k_is))
    (case d_started => refine' K46.hasD_mk KX G (fun _ F => F.binds (ps := ["program", "inputs", "keeping"]) fun _ _ _ _ _ _ us hl => match us, hl with | [_, _, _], _ => rfl) ?a ?l ?c ?k; (case a => k_is); (case l => k_is); (case c => k_is); (case k => k_is))
    (case d_run_program => refine' K46.hasD_mk KX G (fun _ F => F.binds (ps := ["program", "inputs", "limit"]) fun _ _ _ _ _ _ us hl => match us, hl with | [_, _, _], _ => rfl) ?a ?l ?c ?k; (case a => k_is); (case l => k_is); (case c => k_is); (case k => k_is))
    (case d_made_name => refine' K46.hasD_mk KX G (fun _ F => F.binds (ps := ["number"]) fun _ _ _ _ _ _ us hl => match us, hl with | [_], _ => rfl) ?a ?l ?c ?k; (case a => k_is); (case l => k_is); (case c => k_is); (case k => k_is))
    (case d_made_parameters => refine' K46.hasD_mk KX G (fun _ F => F.binds (ps := ["many"]) fun _ _ _ _ _ _ us hl => match us, hl with | [_], _ => rfl) ?a ?l ?c ?k; (case a => k_is); (case l => k_is); (case c => k_is); (case k => k_is))
    (case d_quoted => refine' K46.hasD_mk KX G (fun _ F => F.binds (ps := ["value"]) fun _ _ _ _ _ _ us hl => match us, hl with | [_], _ => rfl) ?a ?l ?c ?k; (case a => k_is); (case l => k_is); (case c => k_is); (case k => k_is))
    (case d_with_main => refine' K46.hasD_mk KX G (fun _ F => F.binds (ps := ["functions", "parameters", "body"]) fun _ _ _ _ _ _ us hl => match us, hl with | [_, _, _], _ => rfl) ?a ?l ?c ?k; (case a => k_is); (case l => k_is); (case c => k_is); (case k => k_is))
    (case d_fill_function => refine' K46.hasD_mk KX G (fun _ F => F.binds (ps := ["main", "number", "value", "many"]) fun _ _ _ _ _ _ us hl => match us, hl with | [_, _, _, _], _ => rfl) ?a ?l ?c ?k; (case a => k_is); (case l => k_is); (case c => k_is); (case k => k_is))
    (case d_listed => refine' K46.hasD_mk KX G (fun _ F => F.binds (ps := ["parts"]) fun _ _ _ _ _ _ us hl => match us, hl with | [_], _ => rfl) ?a ?l ?c ?k; (case a => k_is); (case l => k_is); (case c => k_is); (case k => k_is))
    (case d_filled_tree => refine' K46.hasD_mk KX G (fun _ F => F.binds (ps := ["main", "number", "many"]) fun _ _ _ _ _ _ us hl => match us, hl with | [_, _, _], _ => rfl) ?a ?l ?c ?k; (case a => k_is); (case l => k_is); (case c => k_is); (case k => k_is))
    (case d_renamed_expression => refine' K46.hasD_mk KX G (fun _ F => F.binds (ps := ["expression", "names"]) fun _ _ _ _ _ _ us hl => match us, hl with | [_, _], _ => rfl) ?a ?l ?c ?k; (case a => k_is); (case l => k_is); (case c => k_is); (case k => k_is))
    (case d_check_inputs => refine' K46.hasD_mk KX G (fun _ F => F.binds (ps := ["programs", "many"]) fun _ _ _ _ _ _ us hl => match us, hl with | [_, _], _ => rfl) ?a ?l ?c ?k; (case a => k_is); (case l => k_is); (case c => k_is); (case k => k_is))
    (case d_renamed => refine' K46.hasD_mk KX G (fun _ F => F.binds (ps := ["program", "start"]) fun _ _ _ _ _ _ us hl => match us, hl with | [_, _], _ => rfl) ?a ?l ?c ?k; (case a => k_is); (case l => k_is); (case c => k_is); (case k => k_is))
    (case d_joined => refine' K46.hasD_mk KX G (fun _ F => F.binds (ps := ["programs"]) fun _ _ _ _ _ _ us hl => match us, hl with | [_], _ => rfl) ?a ?l ?c ?k; (case a => k_is); (case l => k_is); (case c => k_is); (case k => k_is))
    (case d_fill => refine' K46.hasD_mk KX G (fun _ F => F.binds (ps := ["program", "value"]) fun _ _ _ _ _ _ us hl => match us, hl with | [_, _], _ => rfl) ?a ?l ?c ?k; (case a => k_is); (case l => k_is); (case c => k_is); (case k => k_is))
    (case d_know_own => refine' K46.hasD_mk KX G (fun _ F => F.binds (ps := ["program"]) fun _ _ _ _ _ _ us hl => match us, hl with | [_], _ => rfl) ?a ?l ?c ?k; (case a => k_is); (case l => k_is); (case c => k_is); (case k => k_is))
    (case d_mirror => refine' K46.hasD_mk KX G (fun _ F => F.binds (ps := ["judge", "no", "yes"]) fun _ _ _ _ _ _ us hl => match us, hl with | [_, _, _], _ => rfl) ?a ?l ?c ?k; (case a => k_is); (case l => k_is); (case c => k_is); (case k => k_is))
    (case d__law_take => refine' K46.hasD_mk KX G (fun _ F => F.binds (ps := ["_law_hand", "_law_many"]) fun _ _ _ _ _ _ us hl => match us, hl with | [_, _], _ => rfl) ?a ?l ?c ?k; (case a => k_is); (case l => k_is); (case c => k_is); (case k => k_is))
    (case d__law_draws => refine' K46.hasD_mk KX G (fun _ F => F.binds (ps := ["_law_script", "_law_many"]) fun _ _ _ _ _ _ us hl => match us, hl with | [_, _], _ => rfl) ?a ?l ?c ?k; (case a => k_is); (case l => k_is); (case c => k_is); (case k => k_is))
    (case d__law_value => refine' K46.hasD_mk KX G (fun _ F => F.binds (ps := ["_law_hand", "_law_depth"]) fun _ _ _ _ _ _ us hl => match us, hl with | [_, _], _ => rfl) ?a ?l ?c ?k; (case a => k_is); (case l => k_is); (case c => k_is); (case k => k_is))
    (case d__law_expression => refine' K46.hasD_mk KX G (fun _ F => F.binds (ps := ["_law_hand", "_law_parameters", "_law_calls", "_law_depth"]) fun _ _ _ _ _ _ us hl => match us, hl with | [_, _, _, _], _ => rfl) ?a ?l ?c ?k; (case a => k_is); (case l => k_is); (case c => k_is); (case k => k_is))
    (case d__law_library => refine' K46.hasD_mk KX G (fun _ F => F.binds (ps := []) fun _ _ _ _ _ _ us hl => match us, hl with | [], _ => rfl) ?a ?l ?c ?k; (case a => k_is); (case l => k_is); (case c => k_is); (case k => k_is))
    (case d__law_program => refine' K46.hasD_mk KX G (fun _ F => F.binds (ps := ["_law_hand", "_law_inputs"]) fun _ _ _ _ _ _ us hl => match us, hl with | [_, _], _ => rfl) ?a ?l ?c ?k; (case a => k_is); (case l => k_is); (case c => k_is); (case k => k_is))
    (case d__law_do => refine' K46.hasD_mk KX G (fun _ F => F.binds (ps := ["_law_word", "_law_found"]) fun _ _ _ _ _ _ us hl => match us, hl with | [_, _], _ => rfl) ?a ?l ?c ?k; (case a => k_is); (case l => k_is); (case c => k_is); (case k => k_is))
    (case d__law_small => refine' K46.hasD_mk KX G (fun _ F => F.binds (ps := ["_law_value_here"]) fun _ _ _ _ _ _ us hl => match us, hl with | [_], _ => rfl) ?a ?l ?c ?k; (case a => k_is); (case l => k_is); (case c => k_is); (case k => k_is))
    (case d__law_spaced => refine' K46.hasD_mk KX G (fun _ F => F.binds (ps := ["_law_hand", "_law_text"]) fun _ _ _ _ _ _ us hl => match us, hl with | [_, _], _ => rfl) ?a ?l ?c ?k; (case a => k_is); (case l => k_is); (case c => k_is); (case k => k_is))
    (case d__law_run => refine' K46.hasD_mk KX G (fun _ F => F.binds (ps := ["_law_program_here", "_law_inputs", "_law_limit"]) fun _ _ _ _ _ _ us hl => match us, hl with | [_, _, _], _ => rfl) ?a ?l ?c ?k; (case a => k_is); (case l => k_is); (case c => k_is); (case k => k_is))
    (case m_Store_number_of => refine' K46.hasM_mk KX (fun _ F => F.binds (ps := ["self", "entry"]) fun _ _ _ _ _ _ us hl => match us, hl with | [_, _], _ => rfl) ?a ?l ?c ?k ?i; (case a => k_is); (case l => k_is); (case c => k_is); (case k => k_is); (case i => k_is))
    (case m_Store___init__ => refine' K46.hasM_mk KX (fun _ F => F.binds (ps := ["self"]) fun _ _ _ _ _ _ us hl => match us, hl with | [_], _ => rfl) ?a ?l ?c ?k ?i; (case a => k_is); (case l => k_is); (case c => k_is); (case k => k_is); (case i => k_is))
    (case m_Store_is_word => refine' K46.hasM_mk KX (fun _ F => F.binds (ps := ["self", "number"]) fun _ _ _ _ _ _ us hl => match us, hl with | [_, _], _ => rfl) ?a ?l ?c ?k ?i; (case a => k_is); (case l => k_is); (case c => k_is); (case k => k_is); (case i => k_is))
    (case m_Store_first => refine' K46.hasM_mk KX (fun _ F => F.binds (ps := ["self", "number"]) fun _ _ _ _ _ _ us hl => match us, hl with | [_, _], _ => rfl) ?a ?l ?c ?k ?i; (case a => k_is); (case l => k_is); (case c => k_is); (case k => k_is); (case i => k_is))
    (case m_Store_rest => refine' K46.hasM_mk KX (fun _ F => F.binds (ps := ["self", "number"]) fun _ _ _ _ _ _ us hl => match us, hl with | [_, _], _ => rfl) ?a ?l ?c ?k ?i; (case a => k_is); (case l => k_is); (case c => k_is); (case k => k_is); (case i => k_is))
    (case m_Store_pair_up => refine' K46.hasM_mk KX (fun _ F => F.binds (ps := ["self", "item", "items"]) fun _ _ _ _ _ _ us hl => match us, hl with | [_, _, _], _ => rfl) ?a ?l ?c ?k ?i; (case a => k_is); (case l => k_is); (case c => k_is); (case k => k_is); (case i => k_is))
    (case m_Store_items_of => refine' K46.hasM_mk KX (fun _ F => F.binds (ps := ["self", "number"]) fun _ _ _ _ _ _ us hl => match us, hl with | [_, _], _ => rfl) ?a ?l ?c ?k ?i; (case a => k_is); (case l => k_is); (case c => k_is); (case k => k_is); (case i => k_is))
    (case m_Store_put => refine' K46.hasM_mk KX (fun _ F => F.binds (ps := ["self", "value"]) fun _ _ _ _ _ _ us hl => match us, hl with | [_, _], _ => rfl) ?a ?l ?c ?k ?i; (case a => k_is); (case l => k_is); (case c => k_is); (case k => k_is); (case i => k_is))
    (case m_Store_value_of => refine' K46.hasM_mk KX (fun _ F => F.binds (ps := ["self", "number"]) fun _ _ _ _ _ _ us hl => match us, hl with | [_, _], _ => rfl) ?a ?l ?c ?k ?i; (case a => k_is); (case l => k_is); (case c => k_is); (case k => k_is); (case i => k_is))
    (case m_Machine_is_done => refine' K46.hasM_mk KX (fun _ F => F.binds (ps := ["self"]) fun _ _ _ _ _ _ us hl => match us, hl with | [_], _ => rfl) ?a ?l ?c ?k ?i; (case a => k_is); (case l => k_is); (case c => k_is); (case k => k_is); (case i => k_is))
    (case m_Machine_is_great => refine' K46.hasM_mk KX (fun _ F => F.binds (ps := ["self"]) fun _ _ _ _ _ _ us hl => match us, hl with | [_], _ => rfl) ?a ?l ?c ?k ?i; (case a => k_is); (case l => k_is); (case c => k_is); (case k => k_is); (case i => k_is))
    (case m_Machine_result => refine' K46.hasM_mk KX (fun _ F => F.binds (ps := ["self"]) fun _ _ _ _ _ _ us hl => match us, hl with | [_], _ => rfl) ?a ?l ?c ?k ?i; (case a => k_is); (case l => k_is); (case c => k_is); (case k => k_is); (case i => k_is))
    (case m_Machine_do => refine' K46.hasM_mk KX (fun _ F => F.binds (ps := ["self", "word"]) fun _ _ _ _ _ _ us hl => match us, hl with | [_, _], _ => rfl) ?a ?l ?c ?k ?i; (case a => k_is); (case l => k_is); (case c => k_is); (case k => k_is); (case i => k_is))
    (case m_Machine_begin => refine' K46.hasM_mk KX (fun _ F => F.binds (ps := ["self", "name", "numbers"]) fun _ _ _ _ _ _ us hl => match us, hl with | [_, _, _], _ => rfl) ?a ?l ?c ?k ?i; (case a => k_is); (case l => k_is); (case c => k_is); (case k => k_is); (case i => k_is))
    (case m_Machine_evaluate => refine' K46.hasM_mk KX (fun _ F => F.binds (ps := ["self", "expression", "names"]) fun _ _ _ _ _ _ us hl => match us, hl with | [_, _, _], _ => rfl) ?a ?l ?c ?k ?i; (case a => k_is); (case l => k_is); (case c => k_is); (case k => k_is); (case i => k_is))
    (case m_Machine_go_on => refine' K46.hasM_mk KX (fun _ F => F.binds (ps := ["self", "limit"]) fun _ _ _ _ _ _ us hl => match us, hl with | [_, _], _ => rfl) ?a ?l ?c ?k ?i; (case a => k_is); (case l => k_is); (case c => k_is); (case k => k_is); (case i => k_is))
    (case i_Machine => refine' K46.hasI_mk ?a ?l ?c ?k ?i; (case a => k_is); (case l => k_is); (case c => k_is); (case k => k_is); (case i => k_is))
    (case i_Run => refine' K46.hasI_mk ?a ?l ?c ?k ?i; (case a => k_is); (case l => k_is); (case c => k_is); (case k => k_is); (case i => k_is))
    (case d_law => refine' K46.hasL_mk KX G ?a ?l ?c ?k; (case a => k_is); (case l => k_is); (case c => k_is); (case k => k_is))
