import PyProof.Rows.All
import PySem.Str
import Wide.All
import OpenK.AllK
import Wide.FinOn
import HandS.ForMost
import HandS.Codes
import HandS.Defaults
import HandS.MakeKwOnly
import HandS.IsInst
import HandS.Wide
import HandS.Style
import HandS.Flow
import HandS.NoneIn
import HandS.Rev
import HandS.Zip
import HandS.Conv
import HandS.StrMore
import HandS.TupAny
import HandS.More
import PySem.Challenge.RW_ownglass_k45_whole_universal_upon_univer
import KE.KeyNested
import KE.GoesMore
import KE.GoesZip
import KE.GoesEnum
import KE.KStateDown
import HandS.Head0
import HandS.Head1
import HandS.Head2
import HandS.HeadEnd
import HandS.HeadHook1
import HandS.HeadHook2
set_option Elab.async false
set_option linter.all false
set_option maxRecDepth 100000
set_option maxHeartbeats 0
/-! The small language in plain Lean: values, runs with their steps, the universal program, and that it does what the run does. No Python here. -/
namespace Og
open PySem

inductive PV where
  | w (x : Str)
  | l (xs : List PV)

mutual
def PV.deq : (a b : PV) → Decidable (a = b)
  | .w x, .w y => if h : x = y then .isTrue (by rw [h]) else .isFalse (fun q => h (PV.w.inj q))
  | .w _, .l _ => .isFalse (fun q => nomatch q)
  | .l _, .w _ => .isFalse (fun q => nomatch q)
  | .l xs, .l ys => match PV.deqs xs ys with
    | .isTrue h => .isTrue (by rw [h])
    | .isFalse h => .isFalse (fun q => h (PV.l.inj q))
def PV.deqs : (a b : List PV) → Decidable (a = b)
  | [], [] => .isTrue rfl
  | [], _ :: _ => .isFalse (fun q => nomatch q)
  | _ :: _, [] => .isFalse (fun q => nomatch q)
  | x :: xs, y :: ys => match PV.deq x y, PV.deqs xs ys with
    | .isTrue h, .isTrue g => .isTrue (by rw [h, g])
    | .isFalse h, _ => .isFalse (fun q => h (List.cons.inj q).1)
    | _, .isFalse g => .isFalse (fun q => g (List.cons.inj q).2)
end
instance : DecidableEq PV := PV.deq

/-! ### what the special words do -/
def yes : PV := .w "yes"
abbrev nilV : PV := .l []
def headV : PV → PV
  | .l (x :: _) => x
  | _ => nilV
def tailV : PV → PV
  | .l (_ :: r) => .l r
  | _ => nilV
def itemsV : PV → List PV
  | .l xs => xs
  | .w _ => []
def joinV (a b : PV) : PV := .l (a :: itemsV b)
def wordV : PV → PV
  | .w _ => yes
  | .l _ => nilV
def sameV (a b : PV) : PV := if a = b then yes else nilV

/-! ### programs and their runs -/
structure Fn where
  name : Str
  ps : List Str
  body : PV
  deriving DecidableEq
def Fn.enc (f : Fn) : PV := .l [.w f.name, .l (f.ps.map .w), f.body]
def encP (P : List Fn) : PV := .l (P.map Fn.enc)
def look : List Str → List PV → Str → Option PV
  | p :: ps, v :: vs, x => if x = p then some v else look ps vs x
  | _, _, _ => none
def findF : List Fn → Str → Option Fn
  | [], _ => none
  | f :: r, x => if x = f.name then some f else findF r x
def special (k : Str) : Bool := decide (k ∈ (["quote", "if", "same", "word", "head", "tail", "join"] : List Str))

inductive Task where
  | e (ps : List Str) (vs : List PV) (x : PV)
  | a (ps : List Str) (vs : List PV) (xs : List PV)

/-- a run: of an expression (one value), of a list of expressions; its steps -/
inductive Run (P : List Fn) : Task → List PV → Nat → Prop
  | var {ps vs x v} (h : look ps vs x = some v) : Run P (.e ps vs (.w x)) [v] 1
  | quo {ps vs v} : Run P (.e ps vs (.l [.w "quote", v])) [v] 1
  | ifT {ps vs t a b c v n m} (h : Run P (.e ps vs t) [c] n) (hc : c ≠ nilV) (h2 : Run P (.e ps vs a) [v] m) : Run P (.e ps vs (.l [.w "if", t, a, b])) [v] (1 + n + m)
  | ifF {ps vs t a b v n m} (h : Run P (.e ps vs t) [nilV] n) (h2 : Run P (.e ps vs b) [v] m) : Run P (.e ps vs (.l [.w "if", t, a, b])) [v] (1 + n + m)
  | same {ps vs a b x y n} (h : Run P (.a ps vs [a, b]) [x, y] n) : Run P (.e ps vs (.l [.w "same", a, b])) [sameV x y] (1 + n)
  | word {ps vs a x n} (h : Run P (.a ps vs [a]) [x] n) : Run P (.e ps vs (.l [.w "word", a])) [wordV x] (1 + n)
  | head {ps vs a x n} (h : Run P (.a ps vs [a]) [x] n) : Run P (.e ps vs (.l [.w "head", a])) [headV x] (1 + n)
  | tail {ps vs a x n} (h : Run P (.a ps vs [a]) [x] n) : Run P (.e ps vs (.l [.w "tail", a])) [tailV x] (1 + n)
  | join {ps vs a b x y n} (h : Run P (.a ps vs [a, b]) [x, y] n) : Run P (.e ps vs (.l [.w "join", a, b])) [joinV x y] (1 + n)
  | call {ps vs k es ys f v n m} (hk : special k = false) (hf : findF P k = some f) (hl : ys.length = f.ps.length) (h : Run P (.a ps vs es) ys n) (h2 : Run P (.e f.ps ys f.body) [v] m) : Run P (.e ps vs (.l (.w k :: es))) [v] (1 + n + m)
  | nil {ps vs} : Run P (.a ps vs []) [] 0
  | cons {ps vs x xs v ys n m} (h : Run P (.e ps vs x) [v] n) (h2 : Run P (.a ps vs xs) ys m) : Run P (.a ps vs (x :: xs)) (v :: ys) (n + m)

theorem Run.cast {P : List Fn} {t : Task} {r r' : List PV} {n n' : Nat} (h : Run P t r n) (e : n = n') (e' : r = r' := by rfl) : Run P t r' n' := by
  subst e; subst e'; exact h
theorem Run.a1 {P : List Fn} {ps vs x v n} (h : Run P (.e ps vs x) [v] n) : Run P (.a ps vs [x]) [v] n := Run.cast (.cons h .nil) rfl
theorem Run.a2 {P : List Fn} {ps vs x y v u n m} (h : Run P (.e ps vs x) [v] n) (h2 : Run P (.e ps vs y) [u] m) : Run P (.a ps vs [x, y]) [v, u] (n + m) := .cons h (.a1 h2)
theorem Run.if_ {P : List Fn} {ps vs t a b c v n m} (h : Run P (.e ps vs t) [c] n) (h2 : Run P (.e ps vs (if c = nilV then b else a)) [v] m) : Run P (.e ps vs (.l [.w "if", t, a, b])) [v] (1 + n + m) := by
  by_cases hc : c = nilV
  · subst hc
    rw [if_pos rfl] at h2
    exact .ifF h h2
  · rw [if_neg hc] at h2
    exact .ifT h hc h2

/-! ### the universal program -/
/-- short words for the text below: a name, a list -/
abbrev W (x : String) : PV := .w (Str.ofString x)
abbrev L (xs : List PV) : PV := .l xs
abbrev q (x : PV) : PV := L [W "quote", x]
abbrev hd (x : PV) : PV := L [W "head", x]
abbrev tl (x : PV) : PV := L [W "tail", x]
abbrev iff (a b c : PV) : PV := L [W "if", a, b, c]
abbrev sm (a b : PV) : PV := L [W "same", a, b]
def bMain : PV := L [W "apply", hd (W "p"), W "xs", W "p"]
def bApply : PV := L [W "ev", L [W "third", W "f"], L [W "second", W "f"], W "vs", W "p"]
def bSecond : PV := hd (tl (W "l"))
def bThird : PV := hd (tl (tl (W "l")))
def bFourth : PV := hd (tl (tl (tl (W "l"))))
def bEv : PV := iff (L [W "word", W "e"]) (L [W "look", W "e", W "ns", W "vs"]) (L [W "evlist", hd (W "e"), W "e", W "ns", W "vs", W "p"])
def bLook : PV := iff (sm (W "e") (hd (W "ns"))) (hd (W "vs")) (L [W "look", W "e", tl (W "ns"), tl (W "vs")])
def bEvlist : PV := iff (sm (W "w") (q (W "quote"))) (L [W "second", W "e"])
  (iff (sm (W "w") (q (W "if")))
    (iff (L [W "ev", L [W "second", W "e"], W "ns", W "vs", W "p"]) (L [W "ev", L [W "third", W "e"], W "ns", W "vs", W "p"]) (L [W "ev", L [W "fourth", W "e"], W "ns", W "vs", W "p"]))
    (L [W "evcall", W "w", L [W "evs", tl (W "e"), W "ns", W "vs", W "p"], W "p"]))
def bEvs : PV := iff (W "es") (L [W "join", L [W "ev", hd (W "es"), W "ns", W "vs", W "p"], L [W "evs", tl (W "es"), W "ns", W "vs", W "p"]]) (q nilV)
def bEvcall : PV := iff (sm (W "w") (q (W "same"))) (sm (hd (W "ys")) (L [W "second", W "ys"]))
  (iff (sm (W "w") (q (W "word"))) (L [W "word", hd (W "ys")])
  (iff (sm (W "w") (q (W "head"))) (hd (hd (W "ys")))
  (iff (sm (W "w") (q (W "tail"))) (tl (hd (W "ys")))
  (iff (sm (W "w") (q (W "join"))) (L [W "join", hd (W "ys"), L [W "second", W "ys"]])
  (L [W "apply", L [W "find", W "w", W "p"], W "ys", W "p"])))))
def bFind : PV := iff (sm (W "w") (hd (hd (W "p")))) (hd (W "p")) (L [W "find", W "w", tl (W "p")])
def U : List Fn := [
  ⟨"main", ["p", "xs"], bMain⟩, ⟨"apply", ["f", "vs", "p"], bApply⟩, ⟨"second", ["l"], bSecond⟩, ⟨"third", ["l"], bThird⟩, ⟨"fourth", ["l"], bFourth⟩,
  ⟨"ev", ["e", "ns", "vs", "p"], bEv⟩, ⟨"look", ["e", "ns", "vs"], bLook⟩, ⟨"evlist", ["w", "e", "ns", "vs", "p"], bEvlist⟩, ⟨"evs", ["es", "ns", "vs", "p"], bEvs⟩,
  ⟨"evcall", ["w", "ys", "p"], bEvcall⟩, ⟨"find", ["w", "p"], bFind⟩]
end Og
namespace Og
open PySem
section
variable {P : List Fn} {ps : List Str} {vs : List PV}
theorem r_hd {x v n} (h : Run P (.e ps vs x) [v] n) : Run P (.e ps vs (hd x)) [headV v] (1 + n) := .head (.a1 h)
theorem r_tl {x v n} (h : Run P (.e ps vs x) [v] n) : Run P (.e ps vs (tl x)) [tailV v] (1 + n) := .tail (.a1 h)
theorem r_wd {x v n} (h : Run P (.e ps vs x) [v] n) : Run P (.e ps vs (L [W "word", x])) [wordV v] (1 + n) := .word (.a1 h)
theorem r_sm {x y v u n m} (h : Run P (.e ps vs x) [v] n) (h2 : Run P (.e ps vs y) [u] m) : Run P (.e ps vs (sm x y)) [sameV v u] (1 + (n + m)) := .same (.a2 h h2)
theorem r_jn {x y v u n m} (h : Run P (.e ps vs x) [v] n) (h2 : Run P (.e ps vs y) [u] m) : Run P (.e ps vs (L [W "join", x, y])) [joinV v u] (1 + (n + m)) := .join (.a2 h h2)
theorem a_cons {x xs v ys n m} (h : Run P (.e ps vs x) [v] n) (h2 : Run P (.a ps vs xs) ys m) : Run P (.a ps vs (x :: xs)) (v :: ys) (n + m) := .cons h h2
theorem sameV_eq (a : PV) : sameV a a = yes := if_pos rfl
theorem sameV_ne {a b : PV} (h : a ≠ b) : sameV a b = nilV := if_neg h
theorem yes_ne : yes ≠ nilV := fun q => nomatch q
end

/-- a call of one of the universal program's own functions -/
theorem r_call {ps : List Str} {vs : List PV} {k : Str} {f : Fn} {es ys : List PV} {v n m} (hf : findF U k = some f) (hk : special k = false) (hl : ys.length = f.ps.length) (h : Run U (.a ps vs es) ys n) (h2 : Run U (.e f.ps ys f.body) [v] m) :
    Run U (.e ps vs (.l (.w k :: es))) [v] (1 + n + m) := .call hk hf hl h h2

/-! ### bodies: values and steps -/
abbrev RB (ps : List Str) (vs : List PV) (b v : PV) (n : Nat) : Prop := Run U (.e ps vs b) [v] n
theorem u_second (x : PV) : RB ["l"] [x] bSecond (headV (tailV x)) 3 := r_hd (r_tl (.var rfl))
theorem u_third (x : PV) : RB ["l"] [x] bThird (headV (tailV (tailV x))) 4 := r_hd (r_tl (r_tl (.var rfl)))
theorem u_fourth (x : PV) : RB ["l"] [x] bFourth (headV (tailV (tailV (tailV x)))) 5 := r_hd (r_tl (r_tl (r_tl (.var rfl))))
section
variable {ps : List Str} {vs : List PV}
theorem c_second {x v n} (h : Run U (.e ps vs x) [v] n) : Run U (.e ps vs (L [W "second", x])) [headV (tailV v)] (1 + n + 3) := r_call (f := ⟨"second", ["l"], bSecond⟩) rfl (by decide +kernel) rfl (.a1 h) (u_second v)
theorem c_third {x v n} (h : Run U (.e ps vs x) [v] n) : Run U (.e ps vs (L [W "third", x])) [headV (tailV (tailV v))] (1 + n + 4) := r_call (f := ⟨"third", ["l"], bThird⟩) rfl (by decide +kernel) rfl (.a1 h) (u_third v)
theorem c_fourth {x v n} (h : Run U (.e ps vs x) [v] n) : Run U (.e ps vs (L [W "fourth", x])) [headV (tailV (tailV (tailV v)))] (1 + n + 5) := r_call (f := ⟨"fourth", ["l"], bFourth⟩) rfl (by decide +kernel) rfl (.a1 h) (u_fourth v)
end

/-- look: a parameter's value -/
theorem u_look : ∀ (ns : List Str) (vs : List PV) (x : Str) (v : PV), look ns vs x = some v →
    ∃ m, m ≤ 11 * ns.length ∧ RB ["e", "ns", "vs"] [.w x, .l (ns.map .w), .l vs] bLook v m
  | [], _, _, _, h => by simp [look] at h
  | _ :: _, [], _, _, h => by simp [look] at h
  | p :: ns, u :: vs, x, v, h => by
    by_cases e : x = p
    · subst e
      simp only [look, if_true, Option.some.injEq] at h
      subst h
      refine ⟨7, by simp only [List.length_cons]; omega, ?_⟩
      refine Run.cast (Run.ifT (c := yes) (n := 4) ?_ yes_ne (r_hd (.var rfl))) rfl
      exact Run.cast (r_sm (.var rfl) (r_hd (.var rfl))) rfl (congrArg (fun z => [z]) (sameV_eq _))
    · simp only [look, if_neg e] at h
      obtain ⟨m, hm, r⟩ := u_look ns vs x v h
      refine ⟨11 + m, by simp only [List.length_cons]; omega, ?_⟩
      refine Run.cast (Run.ifF (n := 4) (m := 6 + m) ?_ ?_) (by omega)
      · exact Run.cast (r_sm (.var rfl) (r_hd (.var rfl))) rfl (congrArg (fun z => [z]) (sameV_ne fun q => e (PV.w.inj q)))
      · refine Run.cast (r_call (f := ⟨"look", ["e", "ns", "vs"], bLook⟩) rfl (by decide +kernel) rfl (a_cons (.var rfl) (a_cons (r_tl (.var rfl)) (.a1 (r_tl (.var rfl))))) r) (by omega)
/-- find: a function by its name -/
theorem u_find : ∀ (P : List Fn) (x : Str) (f : Fn), findF P x = some f → ∃ m, m ≤ 10 * P.length ∧ RB ["w", "p"] [.w x, encP P] bFind f.enc m
  | [], _, _, h => by simp [findF] at h
  | g :: P, x, f, h => by
    by_cases e : x = g.name
    · subst e
      simp only [findF, if_true, Option.some.injEq] at h
      subst h
      refine ⟨8, by simp only [List.length_cons]; omega, ?_⟩
      refine Run.cast (Run.ifT (c := yes) (n := 5) ?_ yes_ne (r_hd (.var rfl))) rfl
      exact Run.cast (r_sm (.var rfl) (r_hd (r_hd (.var rfl)))) rfl (congrArg (fun z => [z]) (sameV_eq _))
    · simp only [findF, if_neg e] at h
      obtain ⟨m, hm, r⟩ := u_find P x f h
      refine ⟨10 + m, by simp only [List.length_cons]; omega, ?_⟩
      refine Run.cast (Run.ifF (n := 5) (m := 4 + m) ?_ ?_) (by omega)
      · exact Run.cast (r_sm (.var rfl) (r_hd (r_hd (.var rfl)))) rfl (congrArg (fun z => [z]) (sameV_ne fun q => e (PV.w.inj q)))
      · exact Run.cast (r_call (f := ⟨"find", ["w", "p"], bFind⟩) rfl (by decide +kernel) rfl (a_cons (.var rfl) (.a1 (r_tl (.var rfl)))) r) (by omega)
end Og
namespace Og
open PySem
theorem c_same_w {ps : List Str} {vs : List PV} {x : PV} {k : Str} {n : Nat} (j : Str) (h : Run U (.e ps vs x) [.w k] n) : Run U (.e ps vs (sm x (q (.w j)))) [if k = j then yes else nilV] (1 + (n + 1)) :=
  Run.cast (r_sm h .quo) rfl (by
    by_cases e : k = j
    · subst e; rw [if_pos rfl, sameV_eq]
    · rw [if_neg e, sameV_ne fun q => e (PV.w.inj q)])
/-- one test of the chain that fails, that holds -/
theorem ch_no {ps : List Str} {vs : List PV} {x a b v : PV} {k j : Str} {n m : Nat} (h : Run U (.e ps vs x) [.w k] n) (e : k ≠ j) (h2 : Run U (.e ps vs b) [v] m) : Run U (.e ps vs (iff (sm x (q (.w j))) a b)) [v] (1 + (1 + (n + 1)) + m) :=
  .ifF (Run.cast (c_same_w j h) rfl (by rw [if_neg e])) h2
theorem ch_yes {ps : List Str} {vs : List PV} {x a b v : PV} {k : Str} {n m : Nat} (h : Run U (.e ps vs x) [.w k] n) (h2 : Run U (.e ps vs a) [v] m) : Run U (.e ps vs (iff (sm x (q (.w k))) a b)) [v] (1 + (1 + (n + 1)) + m) :=
  .ifT (c := yes) (Run.cast (c_same_w k h) rfl (by rw [if_pos rfl])) yes_ne h2

theorem sp_ne {k : Str} (h : special k = false) {j : Str} (hj : j ∈ (["quote", "if", "same", "word", "head", "tail", "join"] : List Str)) : k ≠ j := fun e => by
  subst e
  have := of_decide_eq_false h
  exact this hj
section
variable {P : List Fn}
abbrev evE (P : List Fn) (ps : List Str) (vs : List PV) (x : PV) : List PV := [x, .l (ps.map .w), .l vs, encP P]
abbrev nE : List Str := ["e", "ns", "vs", "p"]
abbrev nL : List Str := ["w", "e", "ns", "vs", "p"]
abbrev nC : List Str := ["w", "ys", "p"]
/-- ev of a list: to evlist -/
theorem ev_list {ps : List Str} {vs : List PV} {k v : PV} {es : List PV} {m : Nat} (h : RB nL [k, .l (k :: es), .l (ps.map .w), .l vs, encP P] bEvlist v m) : RB nE (evE P ps vs (.l (k :: es))) bEv v (10 + m) := by
  refine Run.cast (Run.ifF (n := 2) (m := 7 + m) (Run.cast (r_wd (.var rfl)) rfl) ?_) (by omega)
  exact Run.cast (r_call (f := ⟨"evlist", nL, bEvlist⟩) rfl (by decide +kernel) rfl (a_cons (r_hd (.var rfl)) (a_cons (.var rfl) (a_cons (.var rfl) (a_cons (.var rfl) (.a1 (.var rfl)))))) h) (by omega)
/-- evlist of what is neither quote nor if: to evcall -/
theorem evlist_call {ps : List Str} {vs : List PV} {k : Str} {es ys : List PV} {v : PV} {m m2 : Nat} (h1 : k ≠ "quote") (h2 : k ≠ "if") (h : RB ["es", "ns", "vs", "p"] [.l es, .l (ps.map .w), .l vs, encP P] bEvs (.l ys) m)
    (h3 : RB nC [.w k, .l ys, encP P] bEvcall v m2) : RB nL [.w k, .l (.w k :: es), .l (ps.map .w), .l vs, encP P] bEvlist v (17 + m + m2) := by
  refine Run.cast (ch_no (.var rfl) h1 (ch_no (.var rfl) h2 (r_call (f := ⟨"evcall", nC, bEvcall⟩) rfl (by decide +kernel) rfl (a_cons (.var rfl) (a_cons (r_call (f := ⟨"evs", ["es", "ns", "vs", "p"], bEvs⟩) (ys := [.l es, .l (ps.map .w), .l vs, encP P]) rfl (by decide +kernel) rfl
    (Run.cast (a_cons (r_tl (.var rfl)) (a_cons (.var rfl) (a_cons (.var rfl) (.a1 (.var rfl))))) rfl rfl) h) (.a1 (.var rfl)))) h3))) (by omega)
theorem call_same (x y : PV) : RB nC [.w "same", .l [x, y], encP P] bEvcall (sameV x y) 12 := Run.cast (ch_yes (.var rfl) (r_sm (r_hd (.var rfl)) (c_second (.var rfl)))) rfl
theorem call_word (x : PV) : RB nC [.w "word", .l [x], encP P] bEvcall (wordV x) 11 := Run.cast (ch_no (.var rfl) (by decide +kernel) (ch_yes (.var rfl) (r_wd (r_hd (.var rfl))))) rfl
theorem call_head (x : PV) : RB nC [.w "head", .l [x], encP P] bEvcall (headV x) 15 := Run.cast (ch_no (.var rfl) (by decide +kernel) (ch_no (.var rfl) (by decide +kernel) (ch_yes (.var rfl) (r_hd (r_hd (.var rfl)))))) rfl
theorem call_tail (x : PV) : RB nC [.w "tail", .l [x], encP P] bEvcall (tailV x) 19 := Run.cast (ch_no (.var rfl) (by decide +kernel) (ch_no (.var rfl) (by decide +kernel) (ch_no (.var rfl) (by decide +kernel) (ch_yes (.var rfl) (r_tl (r_hd (.var rfl))))))) rfl
theorem call_join (x y : PV) : RB nC [.w "join", .l [x, y], encP P] bEvcall (joinV x y) 28 := Run.cast (ch_no (.var rfl) (by decide +kernel) (ch_no (.var rfl) (by decide +kernel) (ch_no (.var rfl) (by decide +kernel) (ch_no (.var rfl) (by decide +kernel) (ch_yes (.var rfl) (r_jn (r_hd (.var rfl)) (c_second (.var rfl)))))))) rfl
/-- apply: a function's body on its values -/
theorem u_apply {f : Fn} {ys : List PV} {v : PV} {m : Nat} (h : RB nE (evE P f.ps ys f.body) bEv v m) : RB ["f", "vs", "p"] [f.enc, .l ys, encP P] bApply v (14 + m) := by
  refine Run.cast (r_call (f := ⟨"ev", nE, bEv⟩) (ys := evE P f.ps ys f.body) rfl (by decide +kernel) rfl (Run.cast (a_cons (c_third (.var rfl)) (a_cons (c_second (.var rfl)) (a_cons (.var rfl) (.a1 (.var rfl))))) rfl rfl) h) (by omega)
theorem call_own {k : Str} {f : Fn} {ys : List PV} {v : PV} {m : Nat} (hk : special k = false) (hf : findF P k = some f) (h : RB nE (evE P f.ps ys f.body) bEv v m) :
    ∃ mf, mf ≤ 10 * P.length ∧ RB nC [.w k, .l ys, encP P] bEvcall v (40 + mf + m) := by
  obtain ⟨mf, h1, r⟩ := u_find P k f hf
  refine ⟨mf, h1, Run.cast (ch_no (.var rfl) (sp_ne hk (by decide +kernel)) (ch_no (.var rfl) (sp_ne hk (by decide +kernel)) (ch_no (.var rfl) (sp_ne hk (by decide +kernel)) (ch_no (.var rfl) (sp_ne hk (by decide +kernel)) (ch_no (.var rfl) (sp_ne hk (by decide +kernel))
    (r_call (f := ⟨"apply", ["f", "vs", "p"], bApply⟩) rfl (by decide +kernel) rfl (a_cons (r_call (f := ⟨"find", ["w", "p"], bFind⟩) rfl (by decide +kernel) rfl (a_cons (.var rfl) (.a1 (.var rfl))) r) (a_cons (.var rfl) (.a1 (.var rfl)))) (u_apply h))))))) (by omega)⟩

def SimT (P : List Fn) : Task → List PV → Nat → Prop
  | .e ps vs x, r, n => ps.length ≤ 5 → ∀ v, r = [v] → ∃ m, m + 20 ≤ 200 * n ∧ RB nE (evE P ps vs x) bEv v m
  | .a ps vs xs, r, n => ps.length ≤ 5 → ∃ m, m ≤ 200 * n + 3 ∧ RB ["es", "ns", "vs", "p"] [.l xs, .l (ps.map .w), .l vs, encP P] bEvs (.l r) m
/-- the universal program does what the run does, in at most 200 steps a step -/
theorem sim (h11 : P.length ≤ 11) (h5 : ∀ k f, findF P k = some f → f.ps.length ≤ 5) {t : Task} {r : List PV} {n : Nat} (h : Run P t r n) : SimT P t r n := by
  have prim : ∀ {ps vs} {k : Str} {es ys : List PV} {v : PV} {n m2 : Nat}, k ≠ "quote" → k ≠ "if" → SimT P (.a ps vs es) ys n → m2 ≤ 28 → RB nC [.w k, .l ys, encP P] bEvcall v m2 →
      SimT P (.e ps vs (.l (.w k :: es))) [v] (1 + n) := fun h1 h2 ih hm h3 hl v' ev => by
    cases ev
    obtain ⟨m, hm1, r1⟩ := ih hl
    refine ⟨10 + (17 + m + _), ?_, ev_list (evlist_call h1 h2 r1 h3)⟩
    omega
  induction h with
  | @var ps vs x v h =>
    intro hl v' ev
    cases ev
    obtain ⟨m, hm, r⟩ := u_look _ _ _ _ h
    refine ⟨7 + m, by omega, ?_⟩
    refine Run.cast (Run.ifT (c := yes) (n := 2) (m := 4 + m) (Run.cast (r_wd (.var rfl)) rfl) yes_ne ?_) (by omega)
    exact Run.cast (r_call (f := ⟨"look", ["e", "ns", "vs"], bLook⟩) rfl (by decide +kernel) rfl (a_cons (.var rfl) (a_cons (.var rfl) (.a1 (.var rfl)))) r) (by omega)
  | @quo ps vs v =>
    intro hl v' ev
    cases ev
    refine ⟨10 + 9, by omega, ev_list (Run.cast (ch_yes (.var rfl) (c_second (.var rfl))) rfl rfl)⟩
  | @ifT ps vs t a b c v n m h hc h2 ih ih2 =>
    intro hl v' ev
    cases ev
    obtain ⟨m1, hm1, r1⟩ := ih hl _ rfl
    obtain ⟨m2, hm2, r2⟩ := ih2 hl _ rfl
    refine ⟨10 + (8 + (1 + (9 + m1) + (10 + m2))), by omega, ev_list (Run.cast (ch_no (.var rfl) (by decide +kernel) (ch_yes (.var rfl) (Run.ifT (c := c) (n := 9 + m1) (m := 10 + m2) ?_ hc ?_))) (by omega))⟩
    · exact Run.cast (r_call (f := ⟨"ev", nE, bEv⟩) (ys := evE P ps vs t) rfl (by decide +kernel) rfl (Run.cast (a_cons (c_second (.var rfl)) (a_cons (.var rfl) (a_cons (.var rfl) (.a1 (.var rfl))))) rfl rfl) r1) (by omega)
    · exact Run.cast (r_call (f := ⟨"ev", nE, bEv⟩) (ys := evE P ps vs a) rfl (by decide +kernel) rfl (Run.cast (a_cons (c_third (.var rfl)) (a_cons (.var rfl) (a_cons (.var rfl) (.a1 (.var rfl))))) rfl rfl) r2) (by omega)
  | @ifF ps vs t a b v n m h h2 ih ih2 =>
    intro hl v' ev
    cases ev
    obtain ⟨m1, hm1, r1⟩ := ih hl _ rfl
    obtain ⟨m2, hm2, r2⟩ := ih2 hl _ rfl
    refine ⟨10 + (8 + (1 + (9 + m1) + (11 + m2))), by omega, ev_list (Run.cast (ch_no (.var rfl) (by decide +kernel) (ch_yes (.var rfl) (Run.ifF (n := 9 + m1) (m := 11 + m2) ?_ ?_))) (by omega))⟩
    · exact Run.cast (r_call (f := ⟨"ev", nE, bEv⟩) (ys := evE P ps vs t) rfl (by decide +kernel) rfl (Run.cast (a_cons (c_second (.var rfl)) (a_cons (.var rfl) (a_cons (.var rfl) (.a1 (.var rfl))))) rfl rfl) r1) (by omega)
    · exact Run.cast (r_call (f := ⟨"ev", nE, bEv⟩) (ys := evE P ps vs b) rfl (by decide +kernel) rfl (Run.cast (a_cons (c_fourth (.var rfl)) (a_cons (.var rfl) (a_cons (.var rfl) (.a1 (.var rfl))))) rfl rfl) r2) (by omega)
  | same h ih => exact prim (by decide +kernel) (by decide +kernel) ih (by omega) (call_same _ _)
  | word h ih => exact prim (by decide +kernel) (by decide +kernel) ih (by omega) (call_word _)
  | head h ih => exact prim (by decide +kernel) (by decide +kernel) ih (by omega) (call_head _)
  | tail h ih => exact prim (by decide +kernel) (by decide +kernel) ih (by omega) (call_tail _)
  | join h ih => exact prim (by decide +kernel) (by decide +kernel) ih (by omega) (call_join _ _)
  | @call ps vs k es ys f v n m hk hf hlen h h2 ih ih2 =>
    intro hl v' ev
    cases ev
    obtain ⟨m1, hm1, r1⟩ := ih hl
    obtain ⟨m2, hm2, r2⟩ := ih2 (h5 k f hf) _ rfl
    obtain ⟨mf, hmf, r3⟩ := call_own hk hf r2
    exact ⟨10 + (17 + m1 + (40 + mf + m2)), by omega, ev_list (evlist_call (sp_ne hk (by decide +kernel)) (sp_ne hk (by decide +kernel)) r1 r3)⟩
  | @nil ps vs =>
    intro hl
    refine ⟨3, by omega, ?_⟩
    exact Run.cast (Run.ifF (n := 1) (m := 1) (.var rfl) .quo) rfl
  | @cons ps vs x xs v ys n m h h2 ih ih2 =>
    intro hl
    obtain ⟨m1, hm1, r1⟩ := ih hl _ rfl
    obtain ⟨m2, hm2, r2⟩ := ih2 hl
    refine ⟨15 + m1 + m2, by omega, ?_⟩
    refine Run.cast (Run.ifT (c := .l (x :: xs)) (n := 1) (m := 1 + ((6 + m1) + (6 + m2))) (.var rfl) (fun q => nomatch q) (Run.cast (r_jn (v := v) (u := .l ys) (n := 6 + m1) (m := 6 + m2) ?_ ?_) (by omega))) (by omega)
    · exact Run.cast (r_call (f := ⟨"ev", nE, bEv⟩) (ys := evE P ps vs x) rfl (by decide +kernel) rfl (Run.cast (a_cons (r_hd (.var rfl)) (a_cons (.var rfl) (a_cons (.var rfl) (.a1 (.var rfl))))) rfl rfl) r1) (by omega)
    · exact Run.cast (r_call (f := ⟨"evs", ["es", "ns", "vs", "p"], bEvs⟩) (ys := [.l xs, .l (ps.map .w), .l vs, encP P]) rfl (by decide +kernel) rfl (Run.cast (a_cons (r_tl (.var rfl)) (a_cons (.var rfl) (a_cons (.var rfl) (.a1 (.var rfl))))) rfl rfl) r2) (by omega)
/-- the whole universal program on a program and its inputs -/
theorem sim_main (h11 : P.length ≤ 11) (h5 : ∀ k f, findF P k = some f → f.ps.length ≤ 5) {f : Fn} {rest : List Fn} (hP : P = f :: rest) (hf : f.ps.length ≤ 5) {xs : List PV} {v : PV} {n : Nat} (h : Run P (.e f.ps xs f.body) [v] n) :
    ∃ m, m ≤ 200 * n ∧ RB ["p", "xs"] [encP P, .l xs] bMain v m := by
  obtain ⟨m, hm, r⟩ := sim h11 h5 h hf _ rfl
  refine ⟨19 + m, by omega, ?_⟩
  refine Run.cast (r_call (f := ⟨"apply", ["f", "vs", "p"], bApply⟩) (ys := [f.enc, .l xs, encP P]) rfl (by decide +kernel) rfl (Run.cast (a_cons (r_hd (.var rfl)) (a_cons (.var rfl) (.a1 (.var rfl)))) rfl (by subst hP; rfl)) (u_apply r)) (by omega)
end
end Og
/-! The store in plain Lean: entries under numbers, what a number denotes. -/
namespace Og
open PySem
inductive Ent where
  | nil
  | wd (x : Str)
  | pr (i j : Nat)
  deriving DecidableEq
abbrev Sto := List Ent
/-- the number i is that of a list -/
def IsL (st : Sto) (i : Nat) : Prop := st[i]? = some .nil ∨ ∃ a b, st[i]? = some (.pr a b)
/-- what an entry's parts are -/
def EntOk (st : Sto) (n : Nat) : Ent → Prop
  | .nil => n = 0
  | .wd _ => n ≠ 0
  | .pr i j => i < n ∧ j < n ∧ IsL st j
structure SWF (st : Sto) : Prop where
  nd : st.Nodup
  z : st[0]? = some .nil
  ok : ∀ n e, st[n]? = some e → EntOk st n e
def numOf (st : Sto) (e : Ent) : Sto × Nat := if e ∈ st then (st, st.idxOf e) else (st ++ [e], st.length)
theorem get_app {α : Type} {l m : List α} {n : Nat} {x : α} (h : l[n]? = some x) : (l ++ m)[n]? = some x := by
  rw [List.getElem?_append_left (List.getElem?_eq_some_iff.mp h).1]; exact h
theorem get_pre {st st' : Sto} (p : st <+: st') {n : Nat} {e : Ent} (h : st[n]? = some e) : st'[n]? = some e := by
  obtain ⟨t, rfl⟩ := p
  exact get_app h
theorem IsL.pre {st st' : Sto} (p : st <+: st') {n : Nat} (h : IsL st n) : IsL st' n := by
  rcases h with h | ⟨a, b, h⟩
  · exact .inl (get_pre p h)
  · exact .inr ⟨a, b, get_pre p h⟩
theorem IsL.lt {st : Sto} {n : Nat} (h : IsL st n) : n < st.length := by
  rcases h with h | ⟨a, b, h⟩ <;> exact (List.getElem?_eq_some_iff.mp h).1
theorem EntOk.pre {st st' : Sto} (p : st <+: st') {n : Nat} : ∀ {e : Ent}, EntOk st n e → EntOk st' n e
  | .nil, h => h
  | .wd _, h => h
  | .pr _ _, h => ⟨h.1, h.2.1, h.2.2.pre p⟩
theorem numOf_spec {st : Sto} (W : SWF st) {e : Ent} (he : e ≠ .nil) (hp : ∀ i j, e = .pr i j → i < st.length ∧ IsL st j) :
    SWF (numOf st e).1 ∧ st <+: (numOf st e).1 ∧ (numOf st e).1[(numOf st e).2]? = some e ∧ (numOf st e).1.length ≤ st.length + 1 := by
  unfold numOf
  by_cases h : e ∈ st
  · rw [if_pos h]
    refine ⟨W, List.prefix_refl _, ?_, by simp⟩
    have := List.idxOf_lt_length_iff.mpr h
    rw [List.getElem?_eq_getElem this]
    simp
  · rw [if_neg h]
    have p : st <+: st ++ [e] := List.prefix_append _ _
    refine ⟨⟨?_, get_app W.z, fun n u hn => ?_⟩, p, by simp, by simp⟩
    · rw [List.nodup_append]
      exact ⟨W.nd, by simp, fun a ha b hb q => h (((List.mem_singleton.mp hb).symm.trans q.symm) ▸ ha)⟩
    · by_cases hl : n < st.length
      · have hn' : st[n]? = some u := by rw [List.getElem?_append_left hl] at hn; exact hn
        exact (W.ok n u hn').pre p
      · have hn2 : n = st.length := by
          have := (List.getElem?_eq_some_iff.mp hn).1
          simp at this
          omega
        subst hn2
        have : u = e := by simpa using hn.symm
        subst this
        have zpos : 0 < st.length := (List.getElem?_eq_some_iff.mp W.z).1
        cases u with
        | nil => exact absurd rfl he
        | wd x => exact Nat.pos_iff_ne_zero.mp zpos
        | pr i j => exact ⟨(hp i j rfl).1, (hp i j rfl).2.lt, (hp i j rfl).2.pre p⟩

/-! ### what a number denotes -/
inductive Den (st : Sto) : Nat → PV → Prop
  | nil {n} (h : st[n]? = some .nil) : Den st n (.l [])
  | wd {n x} (h : st[n]? = some (.wd x)) : Den st n (.w x)
  | pr {n i j a bs} (h : st[n]? = some (.pr i j)) (h1 : Den st i a) (h2 : Den st j (.l bs)) : Den st n (.l (a :: bs))
theorem Den.pre {st st' : Sto} (p : st <+: st') {n : Nat} {v : PV} (h : Den st n v) : Den st' n v := by
  induction h with
  | nil h => exact .nil (get_pre p h)
  | wd h => exact .wd (get_pre p h)
  | pr h _ _ a b => exact .pr (get_pre p h) a b
theorem Den.lt {st : Sto} {n : Nat} {v : PV} (h : Den st n v) : n < st.length := by
  cases h with
  | nil h => exact (List.getElem?_eq_some_iff.mp h).1
  | wd h => exact (List.getElem?_eq_some_iff.mp h).1
  | pr h _ _ => exact (List.getElem?_eq_some_iff.mp h).1
theorem uniqS {st : Sto} (W : SWF st) {m n : Nat} {e : Ent} (a : st[m]? = some e) (b : st[n]? = some e) : m = n :=
  (List.getElem?_inj (List.getElem?_eq_some_iff.mp a).1 W.nd).mp (a.trans b.symm)
/-- one value has one number -/
theorem Den.inj {st : Sto} (W : SWF st) {m : Nat} {v : PV} (h : Den st m v) : ∀ {n : Nat}, Den st n v → m = n := by
  induction h with
  | nil h => intro n g; cases g with | nil g => exact uniqS W h g
  | wd h => intro n g; cases g with | wd g => exact uniqS W h g
  | pr h _ _ a b =>
    intro n g
    cases g with
    | pr g g1 g2 =>
      have e1 := a g1
      have e2 := b g2
      subst e1; subst e2
      exact uniqS W h g
/-- one number has one value -/
theorem Den.fn {st : Sto} {m : Nat} {v : PV} (h : Den st m v) : ∀ {u : PV}, Den st m u → v = u := by
  induction h with
  | nil h => intro u g; cases g <;> rename_i g <;> first | rfl | (rw [h] at g; cases g)
  | wd h => intro u g; cases g <;> rename_i g <;> (rw [h] at g; cases g) <;> rfl
  | pr h _ _ a b =>
    intro u g
    cases g with
    | nil g => rw [h] at g; cases g
    | wd g => rw [h] at g; cases g
    | pr g g1 g2 =>
      rw [h] at g; cases g
      have e1 := a g1
      have e2 := PV.l.inj (b g2)
      rw [e1, e2]
theorem den0 {st : Sto} (W : SWF st) : Den st 0 nilV := .nil W.z
theorem den_nil {st : Sto} (W : SWF st) {n : Nat} (h : Den st n nilV) : n = 0 := h.inj W (den0 W)
theorem Den.isL {st : Sto} {n : Nat} {xs : List PV} (h : Den st n (.l xs)) : IsL st n := by
  cases h with
  | nil h => exact .inl h
  | pr h _ _ => exact .inr ⟨_, _, h⟩

/-! ### the numbers of a list's items -/
inductive Its (st : Sto) : Nat → List Nat → Prop
  | nil {n} (h : st[n]? = some .nil) : Its st n []
  | pr {n i j ns} (h : st[n]? = some (.pr i j)) (h2 : Its st j ns) : Its st n (i :: ns)
inductive Dens (st : Sto) : List Nat → List PV → Prop
  | nil : Dens st [] []
  | cons {n v ns vs} (h : Den st n v) (t : Dens st ns vs) : Dens st (n :: ns) (v :: vs)
theorem Dens.pre {st st' : Sto} (p : st <+: st') {ns : List Nat} {vs : List PV} (h : Dens st ns vs) : Dens st' ns vs := by
  induction h with
  | nil => exact .nil
  | cons h _ ih => exact .cons (h.pre p) ih
theorem Dens.length {st : Sto} {ns : List Nat} {vs : List PV} (h : Dens st ns vs) : ns.length = vs.length := by
  induction h with
  | nil => rfl
  | cons _ _ ih => simp [ih]
theorem Dens.append {st : Sto} {ns ms : List Nat} {vs us : List PV} (h : Dens st ns vs) (g : Dens st ms us) : Dens st (ns ++ ms) (vs ++ us) := by
  induction h with
  | nil => exact g
  | cons h _ ih => exact .cons h ih
theorem Dens.split {st : Sto} {vs us : List PV} : ∀ {ns : List Nat}, Dens st ns (vs ++ us) → ∃ n1 n2, ns = n1 ++ n2 ∧ Dens st n1 vs ∧ Dens st n2 us := by
  induction vs with
  | nil => intro ns h; exact ⟨[], ns, rfl, .nil, h⟩
  | cons v vs ih =>
    intro ns h
    cases h with
    | cons h t =>
      obtain ⟨n1, n2, rfl, h1, h2⟩ := ih t
      exact ⟨_ :: n1, n2, rfl, .cons h h1, h2⟩
theorem Dens.reverse {st : Sto} {ns : List Nat} {vs : List PV} (h : Dens st ns vs) : Dens st ns.reverse vs.reverse := by
  induction h with
  | nil => exact .nil
  | cons h _ ih => simpa using ih.append (.cons h .nil)
theorem Den.its {st : Sto} : ∀ {xs : List PV} {n : Nat}, Den st n (.l xs) → ∃ ns, Its st n ns ∧ Dens st ns xs
  | [], _, h => by
    cases h with
    | nil h => exact ⟨[], .nil h, .nil⟩
  | x :: xs, _, h => by
    cases h with
    | pr h h1 h2 =>
      obtain ⟨ns, a, b⟩ := Den.its h2
      exact ⟨_ :: ns, .pr h a, .cons h1 b⟩
theorem Its.den {st : Sto} {n : Nat} {ns : List Nat} (h : Its st n ns) : ∀ {xs : List PV}, Dens st ns xs → Den st n (.l xs) := by
  induction h with
  | nil h => intro xs d; cases d; exact .nil h
  | pr h _ ih => intro xs d; cases d with | cons a b => exact .pr h a (ih b)
theorem Its.pre {st st' : Sto} (p : st <+: st') {n : Nat} {ns : List Nat} (h : Its st n ns) : Its st' n ns := by
  induction h with
  | nil h => exact .nil (get_pre p h)
  | pr h _ ih => exact .pr (get_pre p h) ih
theorem Its.isL {st : Sto} {n : Nat} {ns : List Nat} (h : Its st n ns) : IsL st n := by
  cases h with
  | nil h => exact .inl h
  | pr h _ => exact .inr ⟨_, _, h⟩
theorem Its.len {st : Sto} (W : SWF st) {n : Nat} {ns : List Nat} (h : Its st n ns) : ns.length ≤ n := by
  induction h with
  | nil h => simp
  | pr h _ ih =>
    have := W.ok _ _ h
    simp only [List.length_cons]
    have := this.2.1
    omega

/-! ### sizes and depths as the store keeps them -/
mutual
def psz : PV → Nat
  | .w _ => 1
  | .l xs => 1 + pszs xs
def pszs : List PV → Nat
  | [] => 0
  | x :: xs => psz x + pszs xs
end
mutual
def pdp : PV → Nat
  | .w _ => 0
  | .l xs => 1 + pdps xs
def pdps : List PV → Nat
  | [] => 0
  | x :: xs => max (pdp x) (pdps xs)
end
def SizOk (szs : List Nat) (n : Nat) : Ent → Prop
  | .nil => szs[n]? = some 1
  | .wd _ => szs[n]? = some 1
  | .pr i j => ∃ a b, szs[i]? = some a ∧ szs[j]? = some b ∧ szs[n]? = some (min (a + b) 200001)
def DepOk (dps : List Nat) (n : Nat) : Ent → Prop
  | .nil => dps[n]? = some 1
  | .wd _ => dps[n]? = some 0
  | .pr i j => ∃ a b, dps[i]? = some a ∧ dps[j]? = some b ∧ dps[n]? = some (min (max (a + 1) b) 201)
structure Tab (st : Sto) (szs dps : List Nat) : Prop where
  ls : szs.length = st.length
  ld : dps.length = st.length
  siz : ∀ n e, st[n]? = some e → SizOk szs n e
  dep : ∀ n e, st[n]? = some e → DepOk dps n e
theorem SizOk.app {szs m : List Nat} {n : Nat} : ∀ {e : Ent}, SizOk szs n e → SizOk (szs ++ m) n e
  | .nil, h => get_app h
  | .wd _, h => get_app h
  | .pr _ _, ⟨a, b, h1, h2, h3⟩ => ⟨a, b, get_app h1, get_app h2, get_app h3⟩
theorem DepOk.app {szs m : List Nat} {n : Nat} : ∀ {e : Ent}, DepOk szs n e → DepOk (szs ++ m) n e
  | .nil, h => get_app h
  | .wd _, h => get_app h
  | .pr _ _, ⟨a, b, h1, h2, h3⟩ => ⟨a, b, get_app h1, get_app h2, get_app h3⟩
theorem Tab.snoc {st : Sto} {szs dps : List Nat} (T : Tab st szs dps) {e : Ent} {a b : Nat} (h1 : SizOk (szs ++ [a]) st.length e) (h2 : DepOk (dps ++ [b]) st.length e) : Tab (st ++ [e]) (szs ++ [a]) (dps ++ [b]) := by
  refine ⟨by simp [T.ls], by simp [T.ld], fun n u hn => ?_, fun n u hn => ?_⟩ <;> (
    by_cases hl : n < st.length
    · rw [List.getElem?_append_left hl] at hn
      first | exact (T.siz n u hn).app | exact (T.dep n u hn).app
    · have hn2 : n = st.length := by
        have := (List.getElem?_eq_some_iff.mp hn).1
        simp at this
        omega
      subst hn2
      have : u = e := by simpa using hn.symm
      subst this
      first | exact h1 | exact h2)
theorem den_siz {st : Sto} {szs dps : List Nat} (T : Tab st szs dps) {n : Nat} {v : PV} (h : Den st n v) : ∃ a, szs[n]? = some a ∧ a ≤ psz v := by
  induction h with
  | nil h => exact ⟨1, T.siz _ _ h, by simp [psz]⟩
  | wd h => exact ⟨1, T.siz _ _ h, by simp [psz]⟩
  | pr h _ _ ih1 ih2 =>
    obtain ⟨a, b, h1, h2, h3⟩ := T.siz _ _ h
    obtain ⟨a', e1, l1⟩ := ih1
    obtain ⟨b', e2, l2⟩ := ih2
    rw [h1] at e1; rw [h2] at e2
    cases e1; cases e2
    refine ⟨_, h3, ?_⟩
    simp only [psz, pszs] at *
    omega
theorem den_dep {st : Sto} {szs dps : List Nat} (T : Tab st szs dps) {n : Nat} {v : PV} (h : Den st n v) : ∃ a, dps[n]? = some a ∧ a ≤ pdp v := by
  induction h with
  | nil h => exact ⟨1, T.dep _ _ h, by simp [pdp]⟩
  | wd h => exact ⟨0, T.dep _ _ h, by simp [pdp]⟩
  | pr h _ _ ih1 ih2 =>
    obtain ⟨a, b, h1, h2, h3⟩ := T.dep _ _ h
    obtain ⟨a', e1, l1⟩ := ih1
    obtain ⟨b', e2, l2⟩ := ih2
    rw [h1] at e1; rw [h2] at e2
    cases e1; cases e2
    refine ⟨_, h3, ?_⟩
    simp only [pdp, pdps] at *
    omega
end Og
/-! The stepping machine in plain Lean: its turns over the store's numbers, and that they do what the run does. -/
namespace Og
open PySem
inductive Tsk where
  | ev (e : Nat) (env : List (Nat × Nat))
  | iff (a b : Nat) (env : List (Nat × Nat))
  | doo (k : Str)
  | call (f many : Nat)
structure AM where
  st : Sto
  fd : List Nat
  td : List Tsk
  n : Nat
abbrev Fns : Type := List (Nat × List Nat × Nat)
def firstN (st : Sto) (a : Nat) : Nat := match st[a]? with
  | some (.pr i _) => i
  | _ => 0
def restN (st : Sto) (a : Nat) : Nat := match st[a]? with
  | some (.pr _ j) => j
  | _ => 0
def wordN (y : Nat) (st : Sto) (a : Nat) : Nat := match st[a]? with
  | some (.wd _) => y
  | _ => 0
def sameN (y a b : Nat) : Nat := if a = b then y else 0
def tailOf (st : Sto) (b : Nat) : Nat := match st[b]? with
  | some (.wd _) => 0
  | _ => b
def joinN (st : Sto) (a b : Nat) : Sto × Nat := numOf st (.pr a (tailOf st b))
def plainW : List Str := ["same", "word", "head", "tail", "join"]
/-- one turn -/
inductive StepA (fns : Fns) (y limit : Nat) : AM → AM → Prop
  | var {st fd e env r n x v} (he : st[e]? = some (.wd x)) (hv : env.lookup e = some v) (hn : n < limit) : StepA fns y limit ⟨st, fd, .ev e env :: r, n⟩ ⟨st, fd ++ [v], r, n + 1⟩
  | quo {st fd e env r n k v} (he : Its st e [k, v]) (hk : st[k]? = some (.wd "quote")) (hn : n < limit) : StepA fns y limit ⟨st, fd, .ev e env :: r, n⟩ ⟨st, fd ++ [v], r, n + 1⟩
  | iff {st fd e env r n k t a b} (he : Its st e [k, t, a, b]) (hk : st[k]? = some (.wd "if")) (hn : n < limit) : StepA fns y limit ⟨st, fd, .ev e env :: r, n⟩ ⟨st, fd, .ev t env :: .iff a b env :: r, n + 1⟩
  | prim {st fd e env r n k ps x} (he : Its st e (k :: ps)) (hk : st[k]? = some (.wd x)) (hx : x ∈ plainW) (h5 : ps.length ≤ 5) (hn : n < limit) : StepA fns y limit ⟨st, fd, .ev e env :: r, n⟩ ⟨st, fd, ps.map (fun p => .ev p env) ++ .doo x :: r, n + 1⟩
  | call {st fd e env r n k ps x} (he : Its st e (k :: ps)) (hk : st[k]? = some (.wd x)) (hx : special x = false) (h5 : ps.length ≤ 5) (hn : n < limit) : StepA fns y limit ⟨st, fd, .ev e env :: r, n⟩ ⟨st, fd, ps.map (fun p => .ev p env) ++ .call k ps.length :: r, n + 1⟩
  | iffT {st fd c a b env r n} (hc : c ≠ 0) : StepA fns y limit ⟨st, fd ++ [c], .iff a b env :: r, n⟩ ⟨st, fd, .ev a env :: r, n⟩
  | iffF {st fd a b env r n} : StepA fns y limit ⟨st, fd ++ [0], .iff a b env :: r, n⟩ ⟨st, fd, .ev b env :: r, n⟩
  | doHead {st fd a r n} (ha : a < st.length) : StepA fns y limit ⟨st, fd ++ [a], .doo "head" :: r, n⟩ ⟨st, fd ++ [firstN st a], r, n⟩
  | doTail {st fd a r n} (ha : a < st.length) : StepA fns y limit ⟨st, fd ++ [a], .doo "tail" :: r, n⟩ ⟨st, fd ++ [restN st a], r, n⟩
  | doWord {st fd a r n} (ha : a < st.length) : StepA fns y limit ⟨st, fd ++ [a], .doo "word" :: r, n⟩ ⟨st, fd ++ [wordN y st a], r, n⟩
  | doSame {st fd a b r n} (ha : a < st.length) (hb : b < st.length) : StepA fns y limit ⟨st, fd ++ [a, b], .doo "same" :: r, n⟩ ⟨st, fd ++ [sameN y a b], r, n⟩
  | doJoin {st fd a b r n} (ha : a < st.length) (hb : b < st.length) : StepA fns y limit ⟨st, fd ++ [a, b], .doo "join" :: r, n⟩ ⟨(joinN st a b).1, fd ++ [(joinN st a b).2], r, n⟩
  | callS {st fd args f many pn b r n} (hl : args.length = many) (hf : fns.lookup f = some (pn, b)) (hp : pn.length = args.length) (hd : pn.Nodup) (h5 : args.length ≤ 5) : StepA fns y limit ⟨st, fd ++ args, .call f many :: r, n⟩ ⟨st, fd, .ev b (pn.zip args) :: r, n⟩
def Chain (fns : Fns) (y limit : Nat) : Nat → AM → AM → Prop
  | 0, A, B => A = B
  | m + 1, A, B => ∃ C, StepA fns y limit A C ∧ Chain fns y limit m C B
section
variable {fns : Fns} {y limit : Nat}
theorem Chain.trans : ∀ {m k : Nat} {A B C : AM}, Chain fns y limit m A B → Chain fns y limit k B C → Chain fns y limit (m + k) A C
  | 0, k, A, B, C, h, g => by
    cases (show A = B from h)
    rw [Nat.zero_add]; exact g
  | m + 1, k, A, B, C, ⟨D, h1, h2⟩, g => by
    rw [Nat.succ_add]
    exact ⟨D, h1, h2.trans g⟩
theorem Chain.one {A B : AM} (h : StepA fns y limit A B) : Chain fns y limit 1 A B := ⟨B, h, rfl⟩

/-! ### what the machine's numbers tell -/
structure EnvOk (st : Sto) (env : List (Nat × Nat)) (ps : List Str) (vs : List PV) : Prop where
  ex : ∃ pn vn, env = pn.zip vn ∧ Dens st pn (ps.map .w) ∧ Dens st vn vs
def FnsOk (st : Sto) : Fns → List Fn → Prop
  | [], [] => True
  | q :: qs, f :: fs => Den st q.1 (.w f.name) ∧ Dens st q.2.1 (f.ps.map .w) ∧ Den st q.2.2 f.body ∧ FnsOk st qs fs
  | _, _ => False
theorem EnvOk.pre {st st' : Sto} (p : st <+: st') {env ps vs} (h : EnvOk st env ps vs) : EnvOk st' env ps vs := by
  obtain ⟨pn, vn, e, a, b⟩ := h.ex
  exact ⟨pn, vn, e, a.pre p, b.pre p⟩
theorem FnsOk.pre {st st' : Sto} (p : st <+: st') : ∀ {fns : Fns} {P : List Fn}, FnsOk st fns P → FnsOk st' fns P
  | [], [], h => h
  | _ :: _, _ :: _, ⟨a, b, c, d⟩ => ⟨a.pre p, b.pre p, c.pre p, d.pre p⟩
  | [], _ :: _, h => h.elim
  | _ :: _, [], h => h.elim
theorem look_zip {st : Sto} (W : SWF st) {x : Str} {xn : Nat} (hx : Den st xn (.w x)) : ∀ {ps : List Str} {vs : List PV} {pn vn : List Nat} {v : PV}, Dens st pn (ps.map .w) → Dens st vn vs → look ps vs x = some v →
    ∃ r, (pn.zip vn).lookup xn = some r ∧ Den st r v
  | [], _, _, _, _, _, _, h => by simp [look] at h
  | _ :: _, [], _, _, _, _, _, h => by simp [look] at h
  | p :: ps, u :: vs, _, _, v, .cons a a2, .cons b b2, h => by
    rename_i n1 ns m1 ms
    by_cases e : x = p
    · subst e
      simp only [look, if_true, Option.some.injEq] at h
      subst h
      have := hx.inj W a
      subst this
      exact ⟨m1, by simp [List.lookup], b⟩
    · simp only [look, if_neg e] at h
      obtain ⟨r, h1, h2⟩ := look_zip W hx a2 b2 h
      have ne : (xn == n1) = false := by
        rw [beq_eq_false_iff_ne]
        intro q
        subst q
        exact e (PV.w.inj (hx.fn a))
      exact ⟨r, by rw [List.zip_cons_cons, List.lookup, ne]; exact h1, h2⟩
theorem find_fns {st : Sto} (W : SWF st) {k : Str} {kn : Nat} (hk : Den st kn (.w k)) : ∀ {fns : Fns} {P : List Fn} {f : Fn}, FnsOk st fns P → findF P k = some f → ∃ pn b, fns.lookup kn = some (pn, b) ∧ Dens st pn (f.ps.map .w) ∧ Den st b f.body
  | [], [], _, _, h => by simp [findF] at h
  | [], _ :: _, _, h, _ => h.elim
  | _ :: _, [], _, h, _ => h.elim
  | (q, pn, b) :: qs, f :: fs, g, ⟨h1, h2, h3, h4⟩, h => by
    by_cases e : k = f.name
    · subst e
      simp only [findF, if_true, Option.some.injEq] at h
      subst h
      have : kn = q := hk.inj W h1
      subst this
      exact ⟨pn, b, by simp [List.lookup], h2, h3⟩
    · simp only [findF, if_neg e] at h
      obtain ⟨pn', b', a1, a2⟩ := find_fns W hk h4 h
      have ne : (kn == q) = false := by
        rw [beq_eq_false_iff_ne]
        intro z
        subst z
        exact e (PV.w.inj (hk.fn h1))
      exact ⟨pn', b', by rw [List.lookup, ne]; exact a1, a2⟩
theorem word_at {st : Sto} {n : Nat} {x : Str} (h : Den st n (.w x)) : st[n]? = some (.wd x) := by cases h with | wd h => exact h
theorem first_den {st : Sto} (W : SWF st) {a : Nat} {v : PV} (h : Den st a v) : Den st (firstN st a) (headV v) := by
  cases h with
  | nil h => unfold firstN; rw [h]; exact den0 W
  | wd h => unfold firstN; rw [h]; exact den0 W
  | pr h h1 h2 => unfold firstN; rw [h]; exact h1
theorem rest_den {st : Sto} (W : SWF st) {a : Nat} {v : PV} (h : Den st a v) : Den st (restN st a) (tailV v) := by
  cases h with
  | nil h => unfold restN; rw [h]; exact den0 W
  | wd h => unfold restN; rw [h]; exact den0 W
  | pr h h1 h2 => unfold restN; rw [h]; exact h2
theorem word_den {st : Sto} (W : SWF st) (hy : Den st y yes) {a : Nat} {v : PV} (h : Den st a v) : Den st (wordN y st a) (wordV v) := by
  cases h with
  | nil h => unfold wordN; rw [h]; exact den0 W
  | wd h => unfold wordN; rw [h]; exact hy
  | pr h h1 h2 => unfold wordN; rw [h]; exact den0 W
theorem same_den {st : Sto} (W : SWF st) (hy : Den st y yes) {a b : Nat} {v u : PV} (h : Den st a v) (g : Den st b u) : Den st (sameN y a b) (sameV v u) := by
  unfold sameN sameV
  by_cases e : a = b
  · subst e
    rw [if_pos rfl, if_pos (h.fn g)]
    exact hy
  · rw [if_neg e, if_neg (fun z => e (by subst z; exact h.inj W g))]
    exact den0 W
theorem tailOf_den {st : Sto} (W : SWF st) {b : Nat} {u : PV} (g : Den st b u) : Den st (tailOf st b) (.l (itemsV u)) := by
  cases g with
  | nil h => unfold tailOf; rw [h]; exact .nil h
  | wd h => unfold tailOf; rw [h]; exact den0 W
  | pr h h1 h2 => unfold tailOf; rw [h]; exact .pr h h1 h2
theorem join_den {st : Sto} (W : SWF st) {a b : Nat} {v u : PV} (h : Den st a v) (g : Den st b u) :
    SWF (joinN st a b).1 ∧ st <+: (joinN st a b).1 ∧ (joinN st a b).1.length ≤ st.length + 1 ∧ Den (joinN st a b).1 (joinN st a b).2 (joinV v u) := by
  have g2 := tailOf_den W g
  obtain ⟨h1, h2, h3, h4⟩ := numOf_spec W (e := .pr a (tailOf st b)) (fun q => nomatch q) (fun i j e => by cases e; exact ⟨h.lt, g2.isL⟩)
  exact ⟨h1, h2, h4, .pr h3 (h.pre h2) (g2.pre h2)⟩

theorem nodup_dens {st : Sto} : ∀ {pn : List Nat} {ps : List Str}, Dens st pn (ps.map .w) → ps.Nodup → pn.Nodup
  | [], [], _, _ => List.nodup_nil
  | _ :: _, p :: ps, .cons a t, h => by
    rw [List.nodup_cons] at h ⊢
    refine ⟨fun m => h.1 ?_, nodup_dens t h.2⟩
    have mem : ∀ {ns : List Nat} {qs : List Str} {n : Nat}, Dens st ns (qs.map .w) → n ∈ ns → ∃ q ∈ qs, Den st n (.w q) := by
      intro ns
      induction ns with
      | nil => intro qs n _ hm; cases hm
      | cons n' ns ih =>
        intro qs n d hm
        cases qs with
        | nil => cases d
        | cons q qs =>
          cases d with
          | cons d1 d2 =>
            rcases List.mem_cons.mp hm with rfl | hm
            · exact ⟨q, List.mem_cons_self, d1⟩
            · obtain ⟨q', h1, h2⟩ := ih d2 hm
              exact ⟨q', List.mem_cons_of_mem _ h1, h2⟩
    obtain ⟨q, h1, h2⟩ := mem t m
    rw [PV.w.inj (a.fn h2)]
    exact h1
/-! ### the run's steps are turns -/
def RunT (P : List Fn) (fns : Fns) (y limit : Nat) : Task → List PV → Nat → Prop
  | .e ps vs x, r, n => ∀ v, r = [v] → ∀ (st : Sto) (en : Nat) (env : List (Nat × Nat)) (rest : List Tsk) (fd : List Nat) (k : Nat), SWF st → Den st en x → EnvOk st env ps vs → FnsOk st fns P → Den st y yes → k + n ≤ limit →
      ∃ st' m o, Chain fns y limit o ⟨st, fd, .ev en env :: rest, k⟩ ⟨st', fd ++ [m], rest, k + n⟩ ∧ o ≤ 2 * n ∧ st <+: st' ∧ SWF st' ∧ Den st' m v ∧ st'.length ≤ st.length + n
  | .a ps vs xs, r, n => ∀ (st : Sto) (es : List Nat) (env : List (Nat × Nat)) (rest : List Tsk) (fd : List Nat) (k : Nat), SWF st → Dens st es xs → EnvOk st env ps vs → FnsOk st fns P → Den st y yes → k + n ≤ limit →
      ∃ st' ms o, Chain fns y limit o ⟨st, fd, es.map (fun p => .ev p env) ++ rest, k⟩ ⟨st', fd ++ ms, rest, k + n⟩ ∧ o ≤ 2 * n ∧ st <+: st' ∧ SWF st' ∧ Dens st' ms r ∧ st'.length ≤ st.length + n
theorem its_of {st : Sto} {en : Nat} {xs : List PV} (h : Den st en (.l xs)) : ∃ ns, Its st en ns ∧ Dens st ns xs := h.its
theorem run_turns {P : List Fn} (hnd : ∀ k f, findF P k = some f → f.ps.Nodup ∧ f.ps.length ≤ 5) {t : Task} {r : List PV} {n : Nat} (h : Run P t r n) : RunT P fns y limit t r n := by
  have prim1 : ∀ {ps vs} {x : Str} {es ys : List PV} {v : PV} {n : Nat} {g : Sto → Nat → Sto × Nat} {a0 : PV}, x ∈ plainW → es.length ≤ 5 → RunT P fns y limit (.a ps vs es) [a0] n →
      (∀ st fd a r k, a < st.length → StepA fns y limit ⟨st, fd ++ [a], .doo x :: r, k⟩ ⟨(g st a).1, fd ++ [(g st a).2], r, k⟩) →
      (∀ st a, SWF st → Den st y yes → Den st a a0 → SWF (g st a).1 ∧ st <+: (g st a).1 ∧ (g st a).1.length ≤ st.length + 1 ∧ Den (g st a).1 (g st a).2 v) →
      RunT P fns y limit (.e ps vs (.l (.w x :: es))) [v] (1 + n) := by
    intro ps vs x es ys v n g a0 hx hes ih hst hden v' ev st en env rest fd k W he hE hF hy hk
    cases ev
    obtain ⟨ns, hI, hD⟩ := he.its
    cases hD with
    | cons d1 d2 =>
      obtain ⟨st', ms, o, c, ho, hp, W', hm, hl⟩ := ih st _ env (.doo x :: rest) fd (k + 1) W d2 hE hF hy (by omega)
      cases hm with
      | cons m1 m2 =>
        cases m2
        obtain ⟨w1, w2, w3, w4⟩ := hden st' _ W' (hy.pre hp) m1
        refine ⟨_, _, 1 + (o + 1), (Chain.one (.prim hI (word_at d1) hx (by rw [d2.length]; exact hes) (by omega))).trans (c.trans ?_), by omega, hp.trans w2, w1, w4, by omega⟩
        have e : k + 1 + n = k + (1 + n) := by omega
        rw [e]
        exact Chain.one (hst _ _ _ _ _ m1.lt)
  have prim2 : ∀ {ps vs} {x : Str} {es ys : List PV} {v : PV} {n : Nat} {g : Sto → Nat → Nat → Sto × Nat} {a0 b0 : PV}, x ∈ plainW → es.length ≤ 5 → RunT P fns y limit (.a ps vs es) [a0, b0] n →
      (∀ st fd a b r k, a < st.length → b < st.length → StepA fns y limit ⟨st, fd ++ [a, b], .doo x :: r, k⟩ ⟨(g st a b).1, fd ++ [(g st a b).2], r, k⟩) →
      (∀ st a b, SWF st → Den st y yes → Den st a a0 → Den st b b0 → SWF (g st a b).1 ∧ st <+: (g st a b).1 ∧ (g st a b).1.length ≤ st.length + 1 ∧ Den (g st a b).1 (g st a b).2 v) →
      RunT P fns y limit (.e ps vs (.l (.w x :: es))) [v] (1 + n) := by
    intro ps vs x es ys v n g a0 b0 hx hes ih hst hden v' ev st en env rest fd k W he hE hF hy hk
    cases ev
    obtain ⟨ns, hI, hD⟩ := he.its
    cases hD with
    | cons d1 d2 =>
      obtain ⟨st', ms, o, c, ho, hp, W', hm, hl⟩ := ih st _ env (.doo x :: rest) fd (k + 1) W d2 hE hF hy (by omega)
      cases hm with
      | cons m1 m2 =>
        cases m2 with
        | cons m2 m3 =>
          cases m3
          obtain ⟨w1, w2, w3, w4⟩ := hden st' _ _ W' (hy.pre hp) m1 m2
          refine ⟨_, _, 1 + (o + 1), (Chain.one (.prim hI (word_at d1) hx (by rw [d2.length]; exact hes) (by omega))).trans (c.trans ?_), by omega, hp.trans w2, w1, w4, by omega⟩
          have e : k + 1 + n = k + (1 + n) := by omega
          rw [e]
          exact Chain.one (hst _ _ _ _ _ _ m1.lt m2.lt)
  induction h with
  | @var ps vs x v h =>
    intro v' ev st en env rest fd k W he hE hF hy hk
    cases ev
    obtain ⟨pn, vn, rfl, d1, d2⟩ := hE.ex
    obtain ⟨m, h1, h2⟩ := look_zip W he d1 d2 h
    exact ⟨st, m, 1, Chain.one (.var (word_at he) h1 (by omega)), by omega, List.prefix_refl _, W, h2, by omega⟩
  | @quo ps vs v =>
    intro v' ev st en env rest fd k W he hE hF hy hk
    cases ev
    obtain ⟨ns, hI, hD⟩ := he.its
    cases hD with
    | cons d1 d2 =>
      cases d2 with
      | cons d2 d3 =>
        cases d3
        exact ⟨st, _, 1, Chain.one (.quo hI (word_at d1) (by omega)), by omega, List.prefix_refl _, W, d2, by omega⟩
  | @ifT ps vs t a b c v n m h hc h2 ih ih2 =>
    intro v' ev st en env rest fd k W he hE hF hy hk
    cases ev
    obtain ⟨ns, hI, hD⟩ := he.its
    cases hD with
    | cons d1 d2 => cases d2 with
      | cons d2 d3 => cases d3 with
        | cons d3 d4 => cases d4 with
          | cons d4 d5 =>
            cases d5
            rename_i kn tn an bn
            obtain ⟨st1, m1, o1, c1, ho1, hp1, W1, hm1, hl1⟩ := ih _ rfl st tn env (.iff an bn env :: rest) fd (k + 1) W d2 hE hF hy (by omega)
            obtain ⟨st2, m2, o2, c2, ho2, hp2, W2, hm2, hl2⟩ := ih2 _ rfl st1 an env rest fd (k + 1 + n) W1 (d3.pre hp1) (hE.pre hp1) (hF.pre hp1) (hy.pre hp1) (by omega)
            have ne : m1 ≠ 0 := fun z => hc (by rw [z] at hm1; exact hm1.fn (den0 W1))
            have e : k + 1 + n + m = k + (1 + n + m) := by omega
            rw [e] at c2
            exact ⟨st2, m2, 1 + (o1 + (1 + o2)), (Chain.one (.iff hI (word_at d1) (by omega))).trans (c1.trans ((Chain.one (.iffT ne)).trans c2)), by omega, hp1.trans hp2, W2, hm2, by omega⟩
  | @ifF ps vs t a b v n m h h2 ih ih2 =>
    intro v' ev st en env rest fd k W he hE hF hy hk
    cases ev
    obtain ⟨ns, hI, hD⟩ := he.its
    cases hD with
    | cons d1 d2 => cases d2 with
      | cons d2 d3 => cases d3 with
        | cons d3 d4 => cases d4 with
          | cons d4 d5 =>
            cases d5
            rename_i kn tn an bn
            obtain ⟨st1, m1, o1, c1, ho1, hp1, W1, hm1, hl1⟩ := ih _ rfl st tn env (.iff an bn env :: rest) fd (k + 1) W d2 hE hF hy (by omega)
            obtain ⟨st2, m2, o2, c2, ho2, hp2, W2, hm2, hl2⟩ := ih2 _ rfl st1 bn env rest fd (k + 1 + n) W1 (d4.pre hp1) (hE.pre hp1) (hF.pre hp1) (hy.pre hp1) (by omega)
            have z := den_nil W1 hm1
            subst z
            have e : k + 1 + n + m = k + (1 + n + m) := by omega
            rw [e] at c2
            exact ⟨st2, m2, 1 + (o1 + (1 + o2)), (Chain.one (.iff hI (word_at d1) (by omega))).trans (c1.trans ((Chain.one .iffF).trans c2)), by omega, hp1.trans hp2, W2, hm2, by omega⟩
  | same h ih => exact prim2 (ys := []) (g := fun st a b => (st, sameN y a b)) (by decide +kernel) (by simp) ih (fun _ _ _ _ _ _ h1 h2 => .doSame h1 h2) fun st a b W hy h1 h2 => ⟨W, List.prefix_refl _, by simp, same_den W hy h1 h2⟩
  | word h ih => exact prim1 (ys := []) (g := fun st a => (st, wordN y st a)) (by decide +kernel) (by simp) ih (fun _ _ _ _ _ h1 => .doWord h1) fun st a W hy h1 => ⟨W, List.prefix_refl _, by simp, word_den W hy h1⟩
  | head h ih => exact prim1 (ys := []) (g := fun st a => (st, firstN st a)) (by decide +kernel) (by simp) ih (fun _ _ _ _ _ h1 => .doHead h1) fun st a W hy h1 => ⟨W, List.prefix_refl _, by simp, first_den W h1⟩
  | tail h ih => exact prim1 (ys := []) (g := fun st a => (st, restN st a)) (by decide +kernel) (by simp) ih (fun _ _ _ _ _ h1 => .doTail h1) fun st a W hy h1 => ⟨W, List.prefix_refl _, by simp, rest_den W h1⟩
  | join h ih => exact prim2 (ys := []) (g := joinN) (by decide +kernel) (by simp) ih (fun _ _ _ _ _ _ h1 h2 => .doJoin h1 h2) fun st a b W hy h1 h2 => join_den W h1 h2
  | @call ps vs k es ys f v n m hk hf hlen h h2 ih ih2 =>
    intro v' ev st en env rest fd q W he hE hF hy hq
    cases ev
    obtain ⟨ns, hI, hD⟩ := he.its
    cases hD with
    | cons d1 d2 =>
      rename_i kn en'
      obtain ⟨st1, ms, o1, c1, ho1, hp1, W1, hm1, hl1⟩ := ih st _ env (.call kn en'.length :: rest) fd (q + 1) W d2 hE hF hy (by omega)
      obtain ⟨pn, b, g1, g2, g3⟩ := find_fns W1 (d1.pre hp1) (hF.pre hp1) hf
      have l1 : ms.length = en'.length := by
        rw [hm1.length, d2.length]
        clear ih ih2 prim1 prim2 h2
        have : ∀ {t : Task} {r : List PV} {n : Nat}, Run P t r n → match t with | .a _ _ xs => r.length = xs.length | _ => True := by
          intro t r n h
          induction h <;> first | trivial | rfl | (simp only [List.length_cons]; simp_all)
        exact this h
      have l2 : pn.length = ms.length := by rw [g2.length, hm1.length, List.length_map, hlen]
      have h5 : en'.length ≤ 5 := by
        have a1 := (hnd k f hf).2
        have a2 := g2.length
        rw [List.length_map] at a2
        omega
      obtain ⟨st2, m2, o2, c2, ho2, hp2, W2, hm2, hl2⟩ := ih2 _ rfl st1 b (pn.zip ms) rest fd (q + 1 + n) W1 g3 ⟨pn, ms, rfl, g2, hm1⟩ (hF.pre hp1) (hy.pre hp1) (by omega)
      have e : q + 1 + n + m = q + (1 + n + m) := by omega
      rw [e] at c2
      exact ⟨st2, m2, 1 + (o1 + (1 + o2)), (Chain.one (.call hI (word_at d1) hk h5 (by omega))).trans (c1.trans ((Chain.one (.callS l1 g1 l2 (nodup_dens g2 (hnd k f hf).1) (by rw [l1]; exact h5))).trans c2)), by omega, hp1.trans hp2, W2, hm2, by omega⟩
  | @nil ps vs =>
    intro st es env rest fd k W he hE hF hy hk
    cases he
    exact ⟨st, [], 0, by rw [List.append_nil]; rfl, by omega, List.prefix_refl _, W, .nil, by omega⟩
  | @cons ps vs x xs v ys n m h h2 ih ih2 =>
    intro st es env rest fd k W he hE hF hy hk
    cases he with
    | cons d1 d2 =>
      rename_i e1 es'
      obtain ⟨st1, m1, o1, c1, ho1, hp1, W1, hm1, hl1⟩ := ih _ rfl st e1 env (es'.map (fun p => .ev p env) ++ rest) fd k W d1 hE hF hy (by omega)
      obtain ⟨st2, ms, o2, c2, ho2, hp2, W2, hm2, hl2⟩ := ih2 st1 es' env rest (fd ++ [m1]) (k + n) W1 (d2.pre hp1) (hE.pre hp1) (hF.pre hp1) (hy.pre hp1) (by omega)
      have e : k + n + m = k + (n + m) := by omega
      rw [e, List.append_assoc] at c2
      exact ⟨st2, m1 :: ms, o1 + o2, c1.trans c2, by omega, hp1.trans hp2, W2, .cons (hm1.pre hp2) hm2, by omega⟩
end
end Og
/-! value_of in plain Lean: its turns. -/
namespace Og
open PySem
/-- one turn: what waits (the top last), what is built; L bounds both -/
inductive StepV (st : Sto) (L : Nat) : List Nat × List Nat → List Nat × List Nat → Prop
  | pop {W B n} (h : n ∈ B) : StepV st L (W ++ [n], B) (W, B)
  | word {W B n x} (h : n ∉ B) (he : st[n]? = some (.wd x)) (hL : B.length < L) : StepV st L (W ++ [n], B) (W ++ [n], B ++ [n])
  | build {W B n ns} (h : n ∉ B) (he : Its st n ns) (ha : ∀ i ∈ ns, i ∈ B) (hL : B.length < L) (hW : W.length < L) : StepV st L (W ++ [n], B) (W ++ [n], B ++ [n])
  | push {W B n ns} (h : n ∉ B) (he : Its st n ns) (ha : ns.filter (fun i => decide (i ∉ B)) ≠ []) (hL : (W ++ [n] ++ ns.filter (fun i => decide (i ∉ B))).length ≤ L) : StepV st L (W ++ [n], B) (W ++ [n] ++ ns.filter (fun i => decide (i ∉ B)), B)
def ChainV (st : Sto) (L : Nat) : Nat → List Nat × List Nat → List Nat × List Nat → Prop
  | 0, A, B => A = B
  | m + 1, A, B => ∃ C, StepV st L A C ∧ ChainV st L m C B
theorem ChainV.trans {st : Sto} {L : Nat} : ∀ {m k : Nat} {A B C : List Nat × List Nat}, ChainV st L m A B → ChainV st L k B C → ChainV st L (m + k) A C
  | 0, k, A, B, C, h, g => by
    cases (show A = B from h)
    rw [Nat.zero_add]; exact g
  | m + 1, k, A, B, C, ⟨D, h1, h2⟩, g => by
    rw [Nat.succ_add]
    exact ⟨D, h1, h2.trans g⟩
theorem ChainV.one {st : Sto} {L : Nat} {A B : List Nat × List Nat} (h : StepV st L A B) : ChainV st L 1 A B := ⟨B, h, rfl⟩
def Done (st : Sto) (L : Nat) (n : Nat) (v : PV) : Prop := ∀ (W B : List Nat), W.length + psz v ≤ L → B.length + psz v ≤ L → 0 ∈ B → ∃ k B', ChainV st L k (W ++ [n], B) (W, B') ∧ (∀ i ∈ B, i ∈ B') ∧ n ∈ B' ∧ B'.length ≤ B.length + psz v
theorem psz_pos' (x : PV) : 0 < psz x := by cases x <;> simp [psz] <;> omega
theorem done_all {st : Sto} {L : Nat} : ∀ {ms : List Nat} {us : List PV}, Dens st ms us → (∀ m u, (m, u) ∈ ms.zip us → Done st L m u) → ∀ (W B : List Nat), W.length + pszs us ≤ L → B.length + pszs us ≤ L → 0 ∈ B →
    ∃ k B', ChainV st L k (W ++ ms, B) (W, B') ∧ (∀ i ∈ B, i ∈ B') ∧ (∀ i ∈ ms, i ∈ B') ∧ B'.length ≤ B.length + pszs us := by
  intro ms us d
  induction d with
  | nil => intro _ W B _ _ h0; exact ⟨0, B, by rw [List.append_nil]; rfl, fun _ h => h, fun _ h => by simp at h, by omega⟩
  | @cons m u ms us hd ht ih =>
    intro hall W B hW hB h0
    simp only [pszs] at hW hB
    have hp := psz_pos' u
    obtain ⟨k1, B1, c1, s1, a1, l1⟩ := ih (fun m' u' h => hall m' u' (List.mem_cons_of_mem _ h)) (W ++ [m]) B (by rw [List.length_append, List.length_singleton]; omega) (by omega) h0
    obtain ⟨k2, B2, c2, s2, a2, l2⟩ := hall m u List.mem_cons_self W B1 (by omega) (by omega) (s1 _ h0)
    refine ⟨k1 + k2, B2, ?_, fun i h => s2 i (s1 i h), fun i h => ?_, by simp only [pszs]; omega⟩
    · have e : W ++ m :: ms = (W ++ [m]) ++ ms := by simp
      rw [e]
      exact c1.trans c2
    · rcases List.mem_cons.mp h with rfl | h
      · exact a2
      · exact s2 i (a1 i h)
theorem dens_filter {st : Sto} (p : Nat → Bool) {ns : List Nat} {xs : List PV} (d : Dens st ns xs) : ∃ us, Dens st (ns.filter p) us ∧ pszs us ≤ pszs xs ∧ ∀ m u, (m, u) ∈ (ns.filter p).zip us → (m, u) ∈ ns.zip xs := by
  induction d with
  | nil => exact ⟨[], .nil, Nat.le_refl _, fun m u h => by simp at h⟩
  | @cons n v ns vs h t ih =>
    obtain ⟨us, d1, l1, m1⟩ := ih
    by_cases hp : p n = true
    · refine ⟨v :: us, by rw [List.filter_cons_of_pos hp]; exact .cons h d1, by simp only [pszs]; omega, fun m u hm => ?_⟩
      rw [List.filter_cons_of_pos hp, List.zip_cons_cons] at hm
      rcases List.mem_cons.mp hm with e | hm
      · rw [e]; exact List.mem_cons_self
      · exact List.mem_cons_of_mem _ (m1 m u hm)
    · refine ⟨us, by rw [List.filter_cons_of_neg hp]; exact d1, by simp only [pszs]; omega, fun m u hm => ?_⟩
      rw [List.filter_cons_of_neg hp] at hm
      exact List.mem_cons_of_mem _ (m1 m u hm)
theorem filter_len {st : Sto} {ms : List Nat} {us : List PV} (d : Dens st ms us) : ms.length ≤ pszs us := by
  induction d with
  | nil => simp
  | @cons n v ns vs h t ih => have := psz_pos' v; simp only [List.length_cons, pszs]; omega
mutual
theorem done_one {st : Sto} {L : Nat} (W0 : SWF st) : ∀ (v : PV) {n : Nat}, Den st n v → Done st L n v
  | .w x, n, h => by
    intro W B hW hB h0
    by_cases hn : n ∈ B
    · exact ⟨1, B, .one (.pop hn), fun _ h => h, hn, by omega⟩
    · simp only [psz] at hB
      refine ⟨2, B ++ [n], (ChainV.one (.word hn (word_at h) (by omega))).trans (.one (.pop (by simp))), fun i h => List.mem_append_left _ h, by simp, by simp [psz]⟩
  | .l xs, n, h => by
    intro W B hW hB h0
    by_cases hn : n ∈ B
    · exact ⟨1, B, .one (.pop hn), fun _ h => h, hn, by omega⟩
    obtain ⟨ns, hI, hD⟩ := h.its
    obtain ⟨us, d1, l1, m1⟩ := dens_filter (fun i => decide (i ∉ B)) hD
    simp only [psz] at hW hB
    have hf := filter_len d1
    by_cases hm : ns.filter (fun i => decide (i ∉ B)) = []
    · have ha : ∀ i ∈ ns, i ∈ B := fun i hi => by
        have := List.filter_eq_nil_iff.mp hm i hi
        simpa using this
      refine ⟨2, B ++ [n], (ChainV.one (.build hn hI ha (by omega) (by omega))).trans (.one (.pop (by simp))), fun i h => List.mem_append_left _ h, by simp, by simp [psz]⟩
    · obtain ⟨k, B1, c1, s1, a1, b1⟩ := done_all (L := L) d1 (fun m u hm => done_each W0 xs hD m u (m1 m u hm)) (W ++ [n]) B (by rw [List.length_append, List.length_singleton]; omega) (by omega) h0
      have c0 : ChainV st L 1 (W ++ [n], B) (W ++ [n] ++ ns.filter (fun i => decide (i ∉ B)), B) := .one (.push hn hI hm (by rw [List.length_append, List.length_append, List.length_singleton]; omega))
      by_cases hn1 : n ∈ B1
      · exact ⟨1 + (k + 1), B1, c0.trans (c1.trans (.one (.pop hn1))), s1, hn1, by simp only [psz]; omega⟩
      · have ha : ∀ i ∈ ns, i ∈ B1 := fun i hi => by
          by_cases hb : i ∈ B
          · exact s1 i hb
          · exact a1 i (List.mem_filter.mpr ⟨hi, by simpa using hb⟩)
        exact ⟨1 + (k + (1 + 1)), B1 ++ [n], c0.trans (c1.trans ((ChainV.one (StepV.build (W := W) (B := B1) hn1 hI ha (by omega) (by omega))).trans (.one (.pop (by simp))))), fun i h => List.mem_append_left _ (s1 i h), by simp, by rw [List.length_append, List.length_singleton]; simp only [psz]; omega⟩
theorem done_each {st : Sto} {L : Nat} (W0 : SWF st) : ∀ (xs : List PV) {ns : List Nat}, Dens st ns xs → ∀ m u, (m, u) ∈ ns.zip xs → Done st L m u
  | [], _, _, m, u, h => by simp at h
  | x :: xs, _, .cons d t, m, u, h => by
    rw [List.zip_cons_cons] at h
    rcases List.mem_cons.mp h with e | h
    · cases e
      exact done_one W0 x d
    · exact done_each W0 xs t m u h
end
end Og
/-! The walk's ground: the text by places, values told by PV, what stays. -/
namespace Og
open PySem PySem.Spec PyProof.Rows L2
/-! ### the text by places -/
def top (i : Nat) : Stmt := PySem.Challenge.pw_ownglass_k45_whole_universal_upon_univer.main.body.getD i (.Pass ⟨0, 0, 0, 0⟩)
/-- a def of the module as it stands behind the top -/
abbrev GDef (K : PySem.W.Frag) (mg : Str → Option Value) (x : Str) (st : Stmt) (kws : List (Str × V)) : Prop :=
  ∃ (f : Addr) (fd : FuncData), FunD K x x (defArgs st) (defBody st) (defScope st) [] kws f fd ∧ mg x = some (.ref f)
/-- a method of the class at C -/
abbrev MDef (K : PySem.W.Frag) (C : Addr) (m qual : Str) (st : Stmt) (kws : List (Str × V)) : Prop :=
  Cls K C ∧ ∃ (f : Addr) (fd : FuncData), FunD K m qual (defArgs st) (defBody st) (defScope st) [] kws f fd ∧ Meth K C m f
/-- how a def's arguments bind -/
abbrev BindOf (x qual : Str) (st : Stmt) (ps : List Str) : Prop :=
  ∀ (kV doc pm : Value) (an : Option Addr) (cdv ct : Value) (us : List Value), us.length = ps.length → bindArgs (PySem.W.fnOf x qual (defArgs st) (defBody st) (defScope st) .none kV doc pm an cdv ct) ⟨us, []⟩ = pure (ps.zip us)
section
variable {P : Program} {w : World} {K : PySem.W.Frag} {mg : Str → Option Value} {base : Heap}
/-- what a def's body must be shown to do -/
abbrev BodyOf (P : Program) (w : World) (K : PySem.W.Frag) (mg : Str → Option Value) (base : Heap) (qual : Str) (st : Stmt) (N : List Str) (k : Nat) (sp : Sp) : Prop :=
  ∀ (f : Addr) (cdv : Value) (A : Around) (outer : List Env) (s : Shared) (H : Hp) (vs : List V) (Q : VK) (E : XK), Room k (A.deeper (envOfC qual (defScope st) s.heap.objs.size f cdv)) → sp vs H Q E →
      ∃ t, PSs (cxOf CX0 P w K mg base N qual (defScope st) f cdv A outer s H E).nox (defBody st) t ∧ t { nx := fun _ H' => Q .non H', rt := Q } (start N vs) H
theorem fnok_of {x qual : Str} {st : Stmt} {kws : List (Str × V)} {N ps : List Str} {k : Nat} {sp : Sp} {f : Addr} {fd : FuncData} (F : FunD K x qual (defArgs st) (defBody st) (defScope st) [] kws f fd) (S : FnScope N ps (defScope st))
    (len : ∀ vs H Q E, sp vs H Q E → vs.length = ps.length) (hb : BodyOf P w K mg base qual st N k sp) : FnOk P w K mg base CX0 (k + 1) f fd ps sp :=
  F.ok S len fun cdv A outer s H vs Q E hr h => by
    obtain ⟨t, h1, h2⟩ := hb f cdv A outer s H vs Q E hr h
    exact ⟨t, h1.nox, h2⟩
theorem cal_of {x : Str} {st : Stmt} {N ps : List Str} {k : Nat} {sp : Sp} (g : GDef K mg x st []) (S : FnScope N ps (defScope st)) (hbind : BindOf x x st ps)
    (len : ∀ vs H Q E, sp vs H Q E → vs.length = ps.length) (hb : BodyOf P w K mg base x st N k sp) : C8.Cal P w K mg base (k + 1) x sp [] := by
  obtain ⟨f, fd, F, hm⟩ := g
  exact ⟨f, fd, ps, [], fnok_of F S len hb, hm, F.kp, F.bindsN hbind, .nil⟩
theorem met_of {m qual : Str} {C : Addr} {st : Stmt} {N ps : List Str} {k : Nat} {sp : Sp} (g : MDef K C m qual st []) (S : FnScope N ps (defScope st)) (hbind : BindOf m qual st ps)
    (len : ∀ vs H Q E, sp vs H Q E → vs.length = ps.length) (hb : BodyOf P w K mg base qual st N k sp) : C8.Met P w K mg base (k + 1) C m sp [] := by
  obtain ⟨c, f, fd, F, hm⟩ := g
  exact ⟨f, fd, ps, [], c, hm, fnok_of F S len hb, F.bindsN hbind, .nil⟩
end
/-! ### values by PV -/
mutual
def Rep (K : PySem.W.Frag) (H : Hp) : PV → V → Prop
  | .w x, v => v = .str x
  | .l xs, v => ∃ a vs, v = .ref a ∧ SqT K H a vs ∧ Reps K H xs vs
def Reps (K : PySem.W.Frag) (H : Hp) : List PV → List V → Prop
  | [], vs => vs = []
  | x :: xs, vs => ∃ v r, vs = v :: r ∧ Rep K H x v ∧ Reps K H xs r
end
/-- what no step ever changes: tuples, and what is locked -/
def Fix : HO → Prop
  | .tup _ => True
  | .frz _ _ => True
  | _ => False
/-- all that stood stands, but the addresses in S; tuples and locked things stand in any case -/
structure Frm (S : List Addr) (H H' : Hp) : Prop where
  old : ∀ b o, H b = some o → b ∉ S → H' b = some o
  fix : ∀ b o, H b = some o → Fix o → H' b = some o
section
variable {K : PySem.W.Frag} {H H1 H2 : Hp} {S S' : List Addr}
theorem Frm.refl : Frm S H H := ⟨fun _ _ h _ => h, fun _ _ h _ => h⟩
theorem Frm.trans (a : Frm S H H1) (b : Frm S H1 H2) : Frm S H H2 := ⟨fun c o h n => b.old c o (a.old c o h n) n, fun c o h n => b.fix c o (a.fix c o h n) n⟩
theorem Frm.mono (a : Frm S H H1) (h : ∀ b ∈ S, b ∈ S') : Frm S' H H1 := ⟨fun c o e n => a.old c o e fun z => n (h c z), a.fix⟩
theorem Frm.of_same (a : Same H H1) : Frm S H H1 := ⟨fun c o h _ => a c o h, fun c o h _ => a c o h⟩
theorem Frm.same (a : Frm [] H H1) : Same H H1 := fun b o h => a.old b o h (by simp)
/-- a new object is laid -/
theorem Frm.new {p : Addr} {o : HO} (h : H p = none) : Frm S H (upd H p o) := Frm.of_same fun b u q => by rw [upd_ne (ne_of_none q h)]; exact q
/-- an object in S is changed -/
theorem Frm.upd {p : Addr} {o o' : HO} (h : p ∈ S) (e : H p = some o) (nf : ¬ Fix o) : Frm S H (upd H p o') :=
  ⟨fun b u q n => by rw [upd_ne (fun z => n (by rw [z]; exact h))]; exact q, fun b u q f => by rw [upd_ne (fun z => nf (by rw [z] at q; rw [q] at e; cases e; exact f))]; exact q⟩
/-- what is new to H may be changed and is no loss to H -/
theorem Frm.updN {p : Addr} {o' : HO} (a : Frm S H H1) (h : H p = none) : Frm S H (L2.upd H1 p o') :=
  ⟨fun b u q n => by rw [upd_ne (ne_of_none q h)]; exact a.old b u q n, fun b u q f => by rw [upd_ne (ne_of_none q h)]; exact a.fix b u q f⟩
theorem Frm.free (a : Frm S H H1) {p : Addr} (h : H1 p = none) (n : p ∉ S) : H p = none := by
  cases q : H p with
  | none => rfl
  | some o => rw [a.old p o q n] at h; cases h
/-- tuples stay -/
def Tps (H H' : Hp) : Prop := ∀ b o, H b = some o → Fix o → H' b = some o
theorem SqT.keep {a : Addr} {vs : List V} (h : SqT K H a vs) (f : ∀ b o, H b = some o → Fix o → H1 b = some o) : SqT K H1 a vs := by
  rcases h with (h | ⟨o, h⟩) | h
  · exact .inl (.inl (f _ _ h trivial))
  · exact .inl (.inr ⟨o, f _ _ h trivial⟩)
  · exact .inr h
mutual
theorem Rep.keep (f : ∀ b o, H b = some o → Fix o → H1 b = some o) : ∀ {x : PV} {v : V}, Rep K H x v → Rep K H1 x v
  | .w x, v, h => h
  | .l xs, v, h => by
    obtain ⟨a, vs, e, h1, h2⟩ := h
    exact ⟨a, vs, e, SqT.keep h1 f, Reps.keep f h2⟩
theorem Reps.keep (f : ∀ b o, H b = some o → Fix o → H1 b = some o) : ∀ {xs : List PV} {vs : List V}, Reps K H xs vs → Reps K H1 xs vs
  | [], vs, h => h
  | x :: xs, vs, h => by
    obtain ⟨v, r, e, h1, h2⟩ := h
    exact ⟨v, r, e, Rep.keep f h1, Reps.keep f h2⟩
end
theorem Reps.length : ∀ {xs : List PV} {vs : List V}, Reps K H xs vs → vs.length = xs.length
  | [], vs, h => by cases (show vs = [] from h); rfl
  | x :: xs, vs, h => by
    obtain ⟨v, r, rfl, _, h2⟩ := h
    simp only [List.length_cons, Reps.length h2]
theorem Reps.get : ∀ {xs : List PV} {vs : List V} {i : Nat} {x : PV}, Reps K H xs vs → xs[i]? = some x → ∃ v, vs[i]? = some v ∧ Rep K H x v
  | [], _, _, _, _, e => by simp at e
  | y :: xs, vs, 0, x, h, e => by
    obtain ⟨v, r, rfl, h1, _⟩ := h
    simp only [List.getElem?_cons_zero, Option.some.injEq] at e
    subst e
    exact ⟨v, by simp, h1⟩
  | y :: xs, vs, i + 1, x, h, e => by
    obtain ⟨v, r, rfl, _, h2⟩ := h
    obtain ⟨u, h3, h4⟩ := Reps.get h2 (by simpa using e)
    exact ⟨u, by simpa using h3, h4⟩
theorem Reps.get' : ∀ {xs : List PV} {vs : List V} {i : Nat} {v : V}, Reps K H xs vs → vs[i]? = some v → ∃ x, xs[i]? = some x ∧ Rep K H x v
  | [], vs, _, _, h, e => by cases (show vs = [] from h); simp at e
  | y :: xs, vs, 0, v, h, e => by
    obtain ⟨v', r, rfl, h1, _⟩ := h
    simp only [List.getElem?_cons_zero, Option.some.injEq] at e
    subst e
    exact ⟨y, by simp, h1⟩
  | y :: xs, vs, i + 1, v, h, e => by
    obtain ⟨v', r, rfl, _, h2⟩ := h
    obtain ⟨u, h3, h4⟩ := Reps.get' h2 (by simpa using e)
    exact ⟨u, by simpa using h3, h4⟩
theorem Reps.append : ∀ {xs ys : List PV} {vs us : List V}, Reps K H xs vs → Reps K H ys us → Reps K H (xs ++ ys) (vs ++ us)
  | [], _, vs, _, h, h2 => by cases (show vs = [] from h); exact h2
  | x :: xs, _, vs, _, h, h2 => by
    obtain ⟨v, r, rfl, h1, h3⟩ := h
    exact ⟨v, _, rfl, h1, Reps.append h3 h2⟩
theorem Reps.drop : ∀ {xs : List PV} {vs : List V} (n : Nat), Reps K H xs vs → Reps K H (xs.drop n) (vs.drop n)
  | _, _, 0, h => h
  | [], vs, n + 1, h => by cases (show vs = [] from h); rfl
  | x :: xs, vs, n + 1, h => by
    obtain ⟨v, r, rfl, h1, h3⟩ := h
    exact Reps.drop n h3
theorem Reps.take : ∀ {xs : List PV} {vs : List V} (n : Nat), Reps K H xs vs → Reps K H (xs.take n) (vs.take n)
  | xs, vs, 0, h => rfl
  | [], vs, n + 1, h => by cases (show vs = [] from h); rfl
  | x :: xs, vs, n + 1, h => by
    obtain ⟨v, r, rfl, h1, h3⟩ := h
    exact ⟨v, _, rfl, h1, Reps.take n h3⟩
/-- the type of such a value -/
def isW : PV → Bool
  | .w _ => true
  | .l _ => false
theorem SqT.ty {a : Addr} {vs : List V} (h : SqT K H a vs) : TyX K H (.ref a) (.type "tuple") := by
  rcases h with (h | ⟨o, h⟩) | ⟨o, its, n, h, c, _⟩
  · exact .base (.tup h)
  · exact .fTuple h
  · exact .kTuple h c
theorem isi_str {x : PV} {v : V} (h : Rep K H x v) {Q : VK} (q : Q (.bl (isW x)) H) : rIsi K [v, .ty "str"] H Q := by
  cases x with
  | w x =>
    cases (show v = .str x from h)
    exact ⟨_, _, .type "str", .type "str", true, rfl, .ty _, .base (.str _), kit_ty (by decide +kernel), q⟩
  | l xs =>
    obtain ⟨a, vs, rfl, h1, _⟩ := h
    exact ⟨_, _, .type "tuple", .type "str", false, rfl, .ty _, SqT.ty h1, kit_ty (by decide +kernel), q⟩
theorem isi_tup {x : PV} {v : V} (h : Rep K H x v) {Q : VK} (q : Q (.bl (!isW x)) H) : rIsi K [v, .ty "tuple"] H Q := by
  cases x with
  | w x =>
    cases (show v = .str x from h)
    exact ⟨_, _, .type "str", .type "tuple", false, rfl, .ty _, .base (.str _), kit_ty (by decide +kernel), q⟩
  | l xs =>
    obtain ⟨a, vs, rfl, h1, _⟩ := h
    exact ⟨_, _, .type "tuple", .type "tuple", true, rfl, .ty _, SqT.ty h1, kit_ty (by decide +kernel), q⟩
end
theorem isi_dat {K : PySem.W.Frag} {H : Hp} {x : PV} {v : V} (h : Rep K H x v) : ∃ t, TyX K H v t ∧ PySem.W.kitOne K t (.type "str") = some (isW x) := by
  cases x with
  | w x =>
    cases (show v = .str x from h)
    exact ⟨.type "str", .base (.str _), kit_ty (r := true) (by decide +kernel)⟩
  | l xs =>
    obtain ⟨a, vs, rfl, h1, _⟩ := h
    exact ⟨.type "tuple", SqT.ty h1, kit_ty (r := false) (by decide +kernel)⟩
theorem isi_datT {K : PySem.W.Frag} {H : Hp} {x : PV} {v : V} (h : Rep K H x v) : ∃ t, TyX K H v t ∧ PySem.W.kitOne K t (.type "tuple") = some (!isW x) := by
  cases x with
  | w x =>
    cases (show v = .str x from h)
    exact ⟨.type "str", .base (.str _), kit_ty (r := false) (by decide +kernel)⟩
  | l xs =>
    obtain ⟨a, vs, rfl, h1, _⟩ := h
    exact ⟨.type "tuple", SqT.ty h1, kit_ty (r := true) (by decide +kernel)⟩
/-- the built-in names that the walk asks -/
structure Blt (mg : Str → Option Value) : Prop where
  isinstance : mg "isinstance" = none
  str : mg "str" = none
  len : mg "len" = none
  dict : mg "dict" = none
  enumerate : mg "enumerate" = none
  zip : mg "zip" = none
  int : mg "int" = none
  abs : mg "abs" = none
  min : mg "min" = none
  max : mg "max" = none
  tuple : mg "tuple" = none
  range : mg "range" = none
  reversed : mg "reversed" = none
end Og
namespace Og
open PySem PySem.Spec PyProof.Rows L2
section
variable {P : Program} {w : World} {K : PySem.W.Frag} {mg : Str → Option Value} {base : Heap}
/-! ### is_word -/
abbrev sIsWord : Stmt := top 8
def spIsWord (K : PySem.W.Frag) : Sp := fun vs H Q _ => ∃ (x : PV) (v : V), vs = [v] ∧ Rep K H x v ∧ Q (.bl (isW x)) H
theorem scIsWord : FnScope ["value"] ["value"] (defScope sIsWord) := ⟨rfl, rfl, rfl, by decide +kernel, rfl, by decide +kernel, by decide +kernel⟩
theorem ok_is_word (B : Blt mg) (g : GDef K mg "is_word" sIsWord []) : C8.Cal P w K mg base 1 "is_word" (spIsWord K) [] := by
  refine cal_of g scIsWord (fun _ _ _ _ _ _ us hl => match us, hl with | [_], _ => rfl) (fun vs H Q E h => ?_) (fun f cdv A outer s H vs Q E hr h => ?_)
  · obtain ⟨x, v, rfl, _⟩ := h; rfl
  obtain ⟨x, v, rfl, hx, q⟩ := h
  refine ⟨_, pss_one (ps_ret (pe_callB call_isi (by rfl) B.isinstance (by decide +kernel) (pa_cons (pv 0) (pa_cons (pe_bltn (v := .ty "str") (by rfl) B.str (by decide +kernel) rfl) pa_nil)))), ?_⟩
  exact ⟨_, rfl, isi_str hx q⟩
end
end Og
/-! A dict whose keys are texts and tuples, mixed: find, get, in, set. -/
namespace Og
open PySem PySem.Spec PyProof.Rows L2
abbrev KVV : Type := NestedKey × Value × Value
def entX (w : World) (x : KVV) : DictEntry := ⟨x.1.hash w, x.2.1, x.2.2⟩
/-- at d stands a dict whose entries are xs, in order -/
def DictX (w : World) (h : Heap) (d : Addr) (xs : List KVV) : Prop :=
  ∃ o es ep, h.get? d = some o ∧ o.ExactDict ∧ o.data = .dict es ep ∧ es.toList = xs.map (entX w) ∧ (∀ x ∈ xs, NestedIs h x.1 x.2.1 ∧ x.1.depth ≤ 8) ∧ (xs.map (·.1)).Nodup
def atX (xs : List KVV) (k : NestedKey) : Option Value := (xs.find? fun x => decide (x.1 = k)).map (·.2.2)
theorem DictX.typeIs {w : World} {s : Shared} {d : Addr} {xs : List KVV} (h : DictX w s.heap d xs) : s.TypeIs (.ref d) "dict" :=
  let ⟨o, _, _, ho, hc, _⟩ := h; ⟨o, ho, hc.1⟩
section
variable {prog : Program} {w : World} {A : Around} {E : Value → Shared → Prop} {s : Shared} {d : Addr} {o : Obj} {es : Array DictEntry} {ep : Nat} {xs : List KVV} {k : NestedKey} {key : Value}
theorem ent_at (he : es.toList = xs.map (entX w)) (j : Nat) : es[j]? = (xs[j]?).map (entX w) := by
  rw [← Array.getElem?_toList, he]
  exact List.getElem?_map
theorem ent_size (he : es.toList = xs.map (entX w)) : es.size = xs.length := by
  have := congrArg List.length he
  simpa using this
theorem uniq (hn : (xs.map (·.1)).Nodup) {i j : Nat} {p q : Value × Value} (hi : xs[i]? = some (k, p)) (hj : xs[j]? = some (k, q)) : i = j := by
  have a : (xs.map (·.1))[i]? = some k := by rw [List.getElem?_map, hi] <;> rfl
  have b : (xs.map (·.1))[j]? = some k := by rw [List.getElem?_map, hj] <;> rfl
  exact (List.getElem?_inj (List.getElem?_eq_some_iff.mp a).1 hn).mp (a.trans b.symm)
abbrev plc (es : Array DictEntry) (h : Int) : List Nat := placesWithHash es.size (fun i => es[i]?.map (·.hash)) h
theorem plc_mem (he : es.toList = xs.map (entX w)) {h : Int} {j : Nat} : j ∈ plc es h ↔ ∃ x, xs[j]? = some x ∧ x.1.hash w = h := by
  unfold plc placesWithHash
  rw [List.mem_filter, List.mem_range]
  show j < es.size ∧ (Option.map (fun x => x.hash) es[j]? == some h) = true ↔ _
  rw [ent_at he j, ent_size he]
  constructor
  · rintro ⟨h1, h2⟩
    rw [List.getElem?_eq_getElem h1] at h2
    refine ⟨xs[j], List.getElem?_eq_getElem h1, ?_⟩
    simpa [entX] using h2
  · rintro ⟨x, h1, h2⟩
    refine ⟨(List.getElem?_eq_some_iff.mp h1).1, ?_⟩
    rw [h1]
    simp [entX, h2]
theorem plc_nodup {h : Int} : (plc es h).Nodup := List.Nodup.sublist List.filter_sublist List.nodup_range
theorem quietX {v : Value} {x : NestedKey} {Q : Bool → Shared → Prop} (h : NestedIs s.heap x v) (hd : x.depth ≤ 8) (q : Q true s) : wpAny (model prog w) A (eqIsQuiet 8 v) Q E s :=
  quiet_key x v 8 s h hd A E Q q
/-- asking the stored keys of one hash tells nothing -/
theorem tellX {stored : List Value} {Q : Bool → Shared → Prop} (hk : NestedIs s.heap k key) (dk : k.depth ≤ 8) (hs : ∀ v ∈ stored, ∃ x : NestedKey, NestedIs s.heap x v ∧ x.depth ≤ 8) (q : Q false s) :
    wpAny (model prog w) A (tableMayTell key stored) Q E s := by
  unfold tableMayTell
  split
  · exact wpAny_pure q
  refine wpAny_bind (quietX hk dk ?_)
  simp only [Bool.not_true, Bool.false_eq_true, if_false]
  refine wpAny_bind (wpAny_forIn_list _ (fun rest r s' => s' = s ∧ r = (none, ()) ∧ ∀ v ∈ rest, v ∈ stored) _ (fun x rest r s' hI => ?_) (fun r s' hI => ?_) _ _ ⟨rfl, rfl, fun _ h => h⟩)
  · obtain ⟨rfl, rfl, hr⟩ := hI
    obtain ⟨y, hy, dy⟩ := hs x (hr x List.mem_cons_self)
    refine wpAny_bind (quietX hy dy ?_)
    simp only [Bool.not_true, Bool.false_eq_true, if_false]
    exact wpAny_pure ⟨rfl, rfl, fun v hv => hr v (List.mem_cons_of_mem _ hv)⟩
  · obtain ⟨rfl, rfl, _⟩ := hI
    exact wpAny_pure q
theorem eqX {x : NestedKey} {u : Value} {Q : Bool → Shared → Prop} (hu : A.units + 8 < cLine) (hx : NestedIs s.heap x u) (hk : NestedIs s.heap k key) (dk : k.depth ≤ 8) (q : Q (decide (x = k)) s) :
    wpAny (model prog w) A (eqBool u key) Q E s :=
  eqAt_key x k A s u key hx hk (by have := Nat.min_le_right x.depth k.depth; omega) _ _ _ _ (by rw [← NestedKey.decide_eq]; exact q)
/-- where a key is, if it is -/
theorem findX {Q : Option Nat → Shared → Prop} (hu : A.units + 8 < cLine) (hk : NestedIs s.heap k key) (dk : k.depth ≤ 8) (ho : s.heap.get? d = some o) (hd : o.data = .dict es ep) (he : es.toList = xs.map (entX w))
    (his : ∀ x ∈ xs, NestedIs s.heap x.1 x.2.1 ∧ x.1.depth ≤ 8) (hn : (xs.map (·.1)).Nodup)
    (hnone : (∀ (j : Nat) (p : Value × Value), xs[j]? ≠ some (k, p)) → Q none s) (hsome : ∀ (j : Nat) (p : Value × Value), xs[j]? = some (k, p) → Q (some j) s) :
    wpAny (model prog w) A (dictFind d key (k.hash w)) Q E s := by
  have isat : ∀ {j : Nat} {x : KVV}, xs[j]? = some x → NestedIs s.heap x.1 x.2.1 ∧ x.1.depth ≤ 8 := fun hj => his _ (List.mem_of_getElem? hj)
  have hst : ∀ v ∈ (plc es (k.hash w)).filterMap (fun i => es[i]?.map (·.key)), ∃ x : NestedKey, NestedIs s.heap x v ∧ x.depth ≤ 8 := fun v hv => by
    obtain ⟨i, hi, e⟩ := List.mem_filterMap.mp hv
    obtain ⟨x, hx, _⟩ := (plc_mem he).mp hi
    rw [ent_at he, hx] at e
    have e2 : x.2.1 = v := by simpa [entX] using e
    exact ⟨x.1, by rw [← e2]; exact isat hx⟩
  have fin : (∀ j ∈ plc es (k.hash w), ∀ p : Value × Value, xs[j]? ≠ some (k, p)) → Q none s := fun h => hnone fun j p hj => h j ((plc_mem he).mpr ⟨_, hj, rfl⟩) p hj
  -- the plain walk
  have plain : wpAny (model prog w) A (dictWalkPlain d key (k.hash w) es (plc es (k.hash w))) Q E s := by
    unfold dictWalkPlain
    refine wpAny_bind (wpAny_forIn_list _ (fun rest b s' => s' = s ∧ b = (none, ()) ∧ ∃ done, plc es (k.hash w) = done ++ rest ∧ ∀ j ∈ done, ∀ p : Value × Value, xs[j]? ≠ some (k, p)) _ (fun x rest b s' hI => ?_) (fun b s' hI => ?_) _ _
      ⟨rfl, rfl, [], rfl, fun j hj => by cases hj⟩)
    · obtain ⟨rfl, rfl, done, hp, hdone⟩ := hI
      obtain ⟨⟨k', u, v⟩, hx, hh⟩ := (plc_mem he).mp (show x ∈ plc es (k.hash w) by rw [hp]; simp)
      have hex : es[x]? = some ⟨k'.hash w, u, v⟩ := by rw [ent_at he, hx] <;> rfl
      have hh' : k'.hash w = k.hash w := hh
      rw [hex]
      dsimp only
      rw [if_pos (by rw [hh']; exact beq_self_eq_true _)]
      refine wpAny_bind (wpAny_dictEpoch ho hd (wpAny_bind (eqX hu (isat hx).1 hk dk (wpAny_bind (wpAny_dictEpoch ho hd ?_)))))
      show wpAny _ _ (if (ep != ep) = true then _ else _) _ E _
      rw [if_neg (by simp)]
      by_cases hkk : k' = k
      · rw [decide_eq_true hkk]
        subst hkk
        exact wpAny_bind (wpAny_rule (wpAny_pure (wpAny_pure (hsome x _ hx))))
      · rw [decide_eq_false hkk]
        refine wpAny_bind (wpAny_rule (wpAny_pure ⟨rfl, rfl, done ++ [x], by rw [hp]; simp, fun j hj p e => ?_⟩))
        rcases List.mem_append.mp hj with hj | hj
        · exact hdone j hj p e
        · rw [List.mem_singleton.mp hj, hx] at e
          exact hkk (Prod.mk.inj (Option.some.inj e)).1
    · obtain ⟨rfl, rfl, done, hp, hdone⟩ := hI
      rw [List.append_nil] at hp
      exact wpAny_pure (fin (by rw [hp]; exact hdone))
  -- the walk that counts hits
  have walk : ∀ (tells : Bool), tells = false → wpAny (model prog w) A (do
      let mut hit : Option Nat := none
      for i in plc es (k.hash w) do
        if let some e := es[i]? then
          if e.hash == k.hash w then
            let before ← dictEpoch d (keyPart key)
            let same ← eqBool e.key key
            if (← dictEpoch d (keyPart key)) != before then unsupported "dict.changed-during-lookup"
            if same then
              if hit.isSome then unsupported "dict.find:order-among-keys-of-one-hash"
              rule "dict.find.hit"
              if ((plc es (k.hash w)).filterMap fun i => es[i]?.map (·.key)).length < 2 then return some i
              hit := some i
            else
              rule "dict.find.same-hash-other-key"
              if tells && !(0 ≤ k.hash w && k.hash w < 32) then unsupported "dict.find:asked-again-or-not-hangs-on-the-table"
      return hit) Q E s := fun tells ht => by
    subst ht
    refine wpAny_bind (wpAny_forIn_list _ (fun rest b s' => s' = s ∧ ∃ hit done, b = (none, hit) ∧ plc es (k.hash w) = done ++ rest ∧
      ((hit = none ∧ ∀ j ∈ done, ∀ p : Value × Value, xs[j]? ≠ some (k, p)) ∨ ∃ j ∈ done, ∃ p : Value × Value, hit = some j ∧ xs[j]? = some (k, p))) _ (fun x rest b s' hI => ?_) (fun b s' hI => ?_) _ _
      ⟨rfl, none, [], rfl, rfl, .inl ⟨rfl, fun j hj => by cases hj⟩⟩)
    · obtain ⟨rfl, hit, done, rfl, hp, hH⟩ := hI
      obtain ⟨⟨k', u, v⟩, hx, hh⟩ := (plc_mem he).mp (show x ∈ plc es (k.hash w) by rw [hp]; simp)
      have hex : es[x]? = some ⟨k'.hash w, u, v⟩ := by rw [ent_at he, hx] <;> rfl
      have hh' : k'.hash w = k.hash w := hh
      have hp' : plc es (k.hash w) = (done ++ [x]) ++ rest := by rw [hp]; simp
      rw [hex]
      dsimp only
      rw [if_pos (by rw [hh']; exact beq_self_eq_true _)]
      refine wpAny_bind (wpAny_dictEpoch ho hd (wpAny_bind (eqX hu (isat hx).1 hk dk (wpAny_bind (wpAny_dictEpoch ho hd ?_)))))
      show wpAny _ _ (if (ep != ep) = true then _ else _) _ E _
      rw [if_neg (by simp)]
      by_cases hkk : k' = k
      · rw [decide_eq_true hkk]
        subst hkk
        have h0 : hit = none := by
          rcases hH with ⟨h0, _⟩ | ⟨j, hj, p, _, e⟩
          · exact h0
          · have q := uniq hn e hx
            subst q
            have nd := plc_nodup (es := es) (h := k'.hash w)
            rw [hp] at nd
            exact absurd rfl ((List.nodup_append.mp nd).2.2 j hj j List.mem_cons_self)
        subst h0
        simp only [Option.isSome_none, Bool.false_eq_true, if_false, if_true]
        first | refine wpAny_bind (wpAny_pure ?_) | skip
        refine wpAny_bind (wpAny_rule ?_)
        split
        · exact wpAny_pure (wpAny_pure (hsome x _ hx))
        · exact wpAny_pure ⟨rfl, some x, _, rfl, hp', .inr ⟨x, by simp, _, rfl, hx⟩⟩
      · rw [decide_eq_false hkk]
        simp only [Bool.false_eq_true, if_false]
        have next : s' = s' ∧ ∃ h1 done', ((none, hit) : Option (Option Nat) × Option Nat) = (none, h1) ∧ plc es (k.hash w) = done' ++ rest ∧
            ((h1 = none ∧ ∀ j ∈ done', ∀ p : Value × Value, xs[j]? ≠ some (k, p)) ∨ ∃ j ∈ done', ∃ p : Value × Value, h1 = some j ∧ xs[j]? = some (k, p)) := by
          refine ⟨rfl, hit, _, rfl, hp', ?_⟩
          rcases hH with ⟨h0, hno⟩ | ⟨j, hj, p, h1, e⟩
          · refine .inl ⟨h0, fun j hj p e => ?_⟩
            rcases List.mem_append.mp hj with hj | hj
            · exact hno j hj p e
            · rw [List.mem_singleton.mp hj, hx] at e
              exact hkk (Prod.mk.inj (Option.some.inj e)).1
          · exact .inr ⟨j, List.mem_append_left _ hj, p, h1, e⟩
        refine wpAny_bind (wpAny_rule ?_)
        first | rw [if_neg (by simp)] | skip
        first
          | exact wpAny_pure next
          | exact wpAny_bind (wpAny_pure (wpAny_pure next))
    · obtain ⟨rfl, hit, done, rfl, hp, hH⟩ := hI
      rw [List.append_nil] at hp
      rcases hH with ⟨rfl, hno⟩ | ⟨j, _, p, rfl, e⟩
      · exact wpAny_pure (fin (by rw [hp]; exact hno))
      · exact wpAny_pure (hsome j p e)
  unfold dictFind
  try with_reducible refine wpAny_holding ?_
  refine wpAny_bind (wpAny_dictEntries ho hd ?_)
  have rest : wpAny (model prog w) A (do
      if (key :: (plc es (k.hash w)).filterMap fun i => es[i]?.map (·.key)).all carriedByValue then return ← dictWalkPlain d key (k.hash w) es (plc es (k.hash w))
      if let .ref _ := key then
        if es.any fun e => e.key == key && e.hash != k.hash w then unsupported "dict.find:a-stored-key-whose-hash-has-changed"
      let tells ← if ((plc es (k.hash w)).filterMap fun i => es[i]?.map (·.key)) == [key] then pure false else tableMayTell key ((plc es (k.hash w)).filterMap fun i => es[i]?.map (·.key))
      if tells && ((plc es (k.hash w)).filterMap fun i => es[i]?.map (·.key)).length ≥ 2 then unsupported "dict.find:order-among-keys-of-one-hash"
      let mut hit : Option Nat := none
      for i in plc es (k.hash w) do
        if let some e := es[i]? then
          if e.hash == k.hash w then
            let before ← dictEpoch d (keyPart key)
            let same ← eqBool e.key key
            if (← dictEpoch d (keyPart key)) != before then unsupported "dict.changed-during-lookup"
            if same then
              if hit.isSome then unsupported "dict.find:order-among-keys-of-one-hash"
              rule "dict.find.hit"
              if ((plc es (k.hash w)).filterMap fun i => es[i]?.map (·.key)).length < 2 then return some i
              hit := some i
            else
              rule "dict.find.same-hash-other-key"
              if tells && !(0 ≤ k.hash w && k.hash w < 32) then unsupported "dict.find:asked-again-or-not-hangs-on-the-table"
      return hit) Q E s := by
    by_cases hall : (key :: (plc es (k.hash w)).filterMap fun i => es[i]?.map (·.key)).all carriedByValue = true
    · rw [if_pos hall]
      exact plain
    rw [if_neg hall]
    have noch : ∀ a, key = .ref a → ¬ (es.any fun e => e.key == key && e.hash != k.hash w) = true := fun a ea => by
      rw [← Array.any_toList, List.any_eq_true]
      rintro ⟨e, hin, hc⟩
      rw [he] at hin
      obtain ⟨x, hx, rfl⟩ := List.mem_map.mp hin
      simp only [entX, Bool.and_eq_true, beq_iff_eq, bne_iff_ne, ne_eq] at hc
      have h1 := (his x hx).1
      rw [hc.1] at h1
      exact hc.2 (by rw [NestedIs.inj _ _ _ h1 hk])
    have tail : wpAny (model prog w) A (do
        let tells ← if ((plc es (k.hash w)).filterMap fun i => es[i]?.map (·.key)) == [key] then pure false else tableMayTell key ((plc es (k.hash w)).filterMap fun i => es[i]?.map (·.key))
        if tells && ((plc es (k.hash w)).filterMap fun i => es[i]?.map (·.key)).length ≥ 2 then unsupported "dict.find:order-among-keys-of-one-hash"
        let mut hit : Option Nat := none
        for i in plc es (k.hash w) do
          if let some e := es[i]? then
            if e.hash == k.hash w then
              let before ← dictEpoch d (keyPart key)
              let same ← eqBool e.key key
              if (← dictEpoch d (keyPart key)) != before then unsupported "dict.changed-during-lookup"
              if same then
                if hit.isSome then unsupported "dict.find:order-among-keys-of-one-hash"
                rule "dict.find.hit"
                if ((plc es (k.hash w)).filterMap fun i => es[i]?.map (·.key)).length < 2 then return some i
                hit := some i
              else
                rule "dict.find.same-hash-other-key"
                if tells && !(0 ≤ k.hash w && k.hash w < 32) then unsupported "dict.find:asked-again-or-not-hangs-on-the-table"
        return hit) Q E s := by
      by_cases hone : (((plc es (k.hash w)).filterMap (fun i => es[i]?.map (·.key))) == [key]) = true
      · rw [if_pos hone]
        refine wpAny_bind (wpAny_pure ?_)
        show wpAny _ _ (if (false && decide _) = true then _ else _) _ _ _
        rw [if_neg (by simp)]
        exact walk false rfl
      · rw [if_neg hone]
        refine wpAny_bind (tellX hk dk hst ?_)
        show wpAny _ _ (if (false && decide _) = true then _ else _) _ _ _
        rw [if_neg (by simp)]
        exact walk false rfl
    cases hk with
    | tup h1 h2 h3 h4 =>
      dsimp only
      rw [if_neg (noch _ rfl)]
      exact tail
    | none => exact tail
    | bool e => exact tail
    | int i t => exact tail
    | text x t => exact tail
  cases hk with
  | tup h1 h2 h3 h4 => exact rest
  | none => exact rest
  | bool e => exact rest
  | int i t => exact rest
  | text y t =>
    dsimp only
    by_cases hstr : (es.all fun e => isExactStrKey e.key) = true
    · rw [if_pos hstr]
      unfold foundByValue
      have key_is : ∀ (j : Nat) (hj : j < es.size), ∃ x, xs[j]? = some x ∧ es[j] = entX w x ∧ es[j].key.isStr y = decide (x.1 = NestedKey.text y) := fun j hj => by
        have hx : xs[j]? = some (xs[j]'(by rw [← ent_size he]; exact hj)) := List.getElem?_eq_getElem _
        refine ⟨_, hx, ?_, ?_⟩
        · have e := ent_at he j
          rw [Array.getElem?_eq_getElem hj, hx] at e
          exact Option.some.inj e
        · have e := ent_at he j
          rw [Array.getElem?_eq_getElem hj, hx] at e
          have e2 := Option.some.inj e
          have hi := (isat hx).1
          rw [← Array.all_toList, List.all_eq_true] at hstr
          have hs := hstr es[j] (by rw [Array.mem_toList_iff]; exact Array.getElem_mem hj)
          rw [e2] at hs ⊢
          generalize xs[j]'(by rw [← ent_size he]; exact hj) = z at hi hs
          obtain ⟨k', u, v⟩ := z
          simp only [entX] at hs ⊢
          cases hi with
          | text x t' => 
            by_cases e : x = y
            · subst e; simp [Value.isStr]
            · simp [Value.isStr, e]
          | none => simp [isExactStrKey] at hs
          | bool e => simp [isExactStrKey] at hs
          | int i t => simp [isExactStrKey] at hs
          | tup h1 h2 h3 h4 => simp [isExactStrKey] at hs
      cases hf : es.findIdx? (fun e => e.key.isStr y) with
      | none =>
        refine wpAny_pure (hnone fun j p hj => ?_)
        have hlt : j < es.size := by rw [ent_size he]; exact (List.getElem?_eq_some_iff.mp hj).1
        obtain ⟨x, hx, _, h2⟩ := key_is j hlt
        rw [hj] at hx
        cases hx
        have := Array.findIdx?_eq_none_iff.mp hf es[j] (Array.getElem_mem hlt)
        rw [h2] at this
        simp at this
      | some i =>
        obtain ⟨hlt, hi, _⟩ := Array.findIdx?_eq_some_iff_getElem.mp hf
        obtain ⟨x, hx, h1, h2⟩ := key_is i hlt
        rw [h2] at hi
        have ek := of_decide_eq_true hi
        simp only [Array.getElem?_eq_getElem hlt]
        rw [h1]
        refine wpAny_bind (wpAny_dictEpoch ho hd (wpAny_bind (eqX hu (isat hx).1 (NestedIs.text y t) dk (wpAny_bind (wpAny_dictEpoch ho hd ?_)))))
        show wpAny _ _ (if (ep != ep) = true then _ else _) _ E _
        rw [if_neg (by simp), decide_eq_true ek]
        exact wpAny_bind (wpAny_rule (wpAny_pure (hsome i x.2 (by rw [hx, ← ek]))))
    · rw [if_neg hstr]
      exact rest
end
end Og
/-! The store's own dict (texts and pairs of numbers as keys) over the layer: in, get, set. -/
namespace Og
open PySem PySem.Spec PyProof.Rows L2
section
variable {prog : Program} {w : World} {A : Around} {E : Value → Shared → Prop} {s : Shared} {d : Addr} {xs : List KVV} {k : NestedKey} {key : Value}
theorem atX_some (hn : (xs.map (·.1)).Nodup) : ∀ {xs : List KVV} {j : Nat} {p : Value × Value}, (xs.map (·.1)).Nodup → xs[j]? = some (k, p) → atX xs k = some p.2 := by
  intro xs
  induction xs with
  | nil => intro j p _ h; simp at h
  | cons x r ih =>
    intro j p hn h
    rw [List.map_cons, List.nodup_cons] at hn
    cases j with
    | zero =>
      have e : x = (k, p) := by simpa using h
      subst e
      simp [atX]
    | succ j =>
      have h' : r[j]? = some (k, p) := by simpa using h
      have ne : ¬ x.1 = k := fun e => hn.1 (e ▸ List.mem_map.mpr ⟨_, List.mem_of_getElem? h', rfl⟩)
      have := ih hn.2 h'
      simpa [atX, List.find?_cons, ne] using this
theorem atX_none (h : ∀ (j : Nat) (p : Value × Value), xs[j]? ≠ some (k, p)) : atX xs k = none := by
  have : (xs.find? fun x => decide (x.1 = k)) = none := List.find?_eq_none.mpr fun x hx e => by
    obtain ⟨j, hj⟩ := List.mem_iff_getElem?.mp hx
    exact h j x.2 (by rw [hj, ← of_decide_eq_true e])
  simp [atX, this]
theorem getX {Q : Option Value → Shared → Prop} (hu : A.units + 8 < cLine) (hk : NestedIs s.heap k key) (dk : k.depth ≤ 8) (hm : DictX w s.heap d xs) (q : ∀ t, Q (atX xs k) { s with toks := t }) :
    wpAny (model prog w) A (dictGet d key) Q E s := by
  obtain ⟨o, es, ep, ho, _, hd, he, his, hn⟩ := hm
  unfold dictGet
  try with_reducible refine wpAny_holding ?_
  refine wpAny_bind (pyHash_key k key A s _ hk (by omega) (wpAny_bind (findX (s := { s with toks := s.toks + k.draws }) hu hk dk ho hd he his hn (fun hno => ?_) fun j p hj => ?_)))
  · have h := q (s.toks + k.draws)
    rw [atX_none hno] at h
    exact wpAny_pure h
  · have h := q (s.toks + k.draws)
    rw [atX_some hn hn hj] at h
    refine wpAny_bind (wpAny_dictEntries (s := { s with toks := s.toks + k.draws }) ho hd ?_)
    rw [ent_at he j, hj]
    exact wpAny_pure h
theorem notInX {Q : Value → Shared → Prop} (hu : A.units + 9 < cLine) (hk : NestedIs s.heap k key) (dk : k.depth ≤ 8) (hd : (d == sysModules) = false) (hm : DictX w s.heap d xs) (q : ∀ t, Q (.bool (!(atX xs k).isSome)) { s with toks := t }) :
    wpAny (model prog w) A (compareOp .NotIn key (.ref d)) Q E s := by
  show wpAny _ _ (do return .bool (!(← contains (.ref d) key))) Q E s
  refine wpAny_bind (wpAny_contains_slot hm.typeIs F.slot_dict_contains (call_meetsIn F.slot_dict_contains hm.typeIs F.entry_dict_contains (F.args_dict_contains_2 _ _)
    (S := fun A' R s' => A' = A ∧ s' = s ∧ ∀ t, R (.ok (.ret (.bool (atX xs k).isSome))) { s with toks := t }) (fun A' R s' hS => ?_) ⟨rfl, rfl, fun t => wpAny_truthy_bool (wpAny_pure (q t))⟩))
  obtain ⟨rfl, rfl, hq⟩ := hS
  show wpAny _ _ (dictGet d key >>= _) _ _ _
  refine wpAny_bind (getX (by rw [Around.in1_units] <;> omega) hk dk hm fun t => ?_)
  have h := hq t
  cases hf : atX xs k with
  | some p =>
    rw [hf] at h
    show wpAny _ _ (ret (.bool true)) _ _ _
    exact wpAny_pure h
  | none =>
    rw [hf] at h
    show wpAny _ _ (Builtin.Dict.pendingKey? d key >>= _) _ _ _
    exact wpAny_bind (wpAny_pendingKey_other hd (wpAny_pure h))
theorem itemX {v : Value} {Q : Value → Shared → Prop} (hu : A.units + 9 < cLine) (hk : NestedIs s.heap k key) (dk : k.depth ≤ 8) (hm : DictX w s.heap d xs) (hv : atX xs k = some v) (q : ∀ t, Q v { s with toks := t }) :
    wpAny (model prog w) A (getItem (.ref d) key) Q E s := by
  unfold getItem
  try with_reducible refine wpAny_holding ?_
  refine wpAny_bind (wpAny_sequenceKey hm.typeIs (by decide) (wpAny_bind (wpAny_callSpecial?_slot (name := Str.ofString "__getitem__") hm.typeIs slot_dict_getitem
    (wpAny_call_entry slot_dict_getitem hm.typeIs entry_dict_getitem ?_ (args_dict_getitem _ _)))))
  show wpAny _ _ (dictGet d key >>= _) _ _ s
  refine wpAny_bind (getX (by rw [Around.in1_units] <;> omega) hk dk hm fun t => ?_)
  rw [hv]
  exact wpAny_pure ⟨v, rfl, wpAny_pure (q t)⟩
/-- a new key -/
theorem putX {v : Value} {Q : Unit → Shared → Prop} (hu : A.units + 9 < cLine) (hk : NestedIs s.heap k key) (dk : k.depth ≤ 8) (hm : DictX w s.heap d xs) (hv : atX xs k = none) (hsz : xs.length ≤ sizeLine)
    (q : ∀ h' t, DictX w h' d (xs ++ [(k, key, v)]) → Heap.SameBut d s.heap h' → Q () { s with heap := h', toks := t }) :
    wpAny (model prog w) A (setItem (.ref d) key v) Q E s := by
  unfold setItem
  try with_reducible refine wpAny_holding ?_
  refine wpAny_bind (wpAny_sequenceKey hm.typeIs (by decide) (wpAny_bind (wpAny_callSpecial?_slot (name := Str.ofString "__setitem__") hm.typeIs slot_dict_setitem
    (wpAny_call_entry slot_dict_setitem hm.typeIs entry_dict_setitem ?_ (args_dict_setitem _ _ _)))))
  show wpAny _ _ (Builtin.Dict.notOrdered "__setitem__" ⟨[.ref d, key, v], []⟩ >>= _) _ _ s
  refine wpAny_bind (wpAny_notOrdered_dict hm.typeIs ?_)
  show wpAny _ _ (dictSet d key v >>= _) _ _ s
  obtain ⟨o, es, ep, ho, hc, hd, he, his, hn⟩ := hm
  refine wpAny_bind ?_
  unfold dictSet
  try with_reducible refine wpAny_holding ?_
  refine wpAny_bind (pyHash_key k key _ s _ hk (by rw [Around.in1_units] <;> omega) ?_)
  unfold dictSetHashed
  try with_reducible refine wpAny_holding ?_
  refine wpAny_bind (findX (s := { s with toks := s.toks + k.draws }) (by rw [Around.in1_units] <;> omega) hk dk ho hd he his hn (fun hno => ?_) fun j p hj => ?_)
  · have keep : ∀ {x : NestedKey} {u : Value} {h' : Heap}, Heap.SameBut d s.heap h' → NestedIs s.heap x u → NestedIs h' x u := fun {x u h'} hs hx => NestedIs.at (fun a ob vs n ha hb => by
      refine (hs.2 a fun e => ?_).trans ha
      rw [e, ho] at ha
      cases ha
      rw [hd] at hb
      cases hb) x u hx
    refine wpAny_bind (wpAny_rule (wpAny_updateDictKeys (hz := by have e := ent_size he; omega) (s := { s with toks := s.toks + k.draws }) ho hd ?_))
    refine wpAny_pure ⟨.none, rfl, wpAny_pure (q _ _ ⟨_, _, ep + 1, Heap.get?_update_self _ ho (Obj.isFreed_of_dict (Obj.data_mapDictKeys hd _)), hc.mapDictKeys _, Obj.data_mapDictKeys hd _, ?_, fun x hx => ?_, ?_⟩ (Heap.SameBut.update ..))⟩
    · simp [he, entX]
    · rcases List.mem_append.mp hx with hx | hx
      · exact ⟨keep (Heap.SameBut.update ..) (his x hx).1, (his x hx).2⟩
      · rw [List.mem_singleton.mp hx]
        exact ⟨keep (Heap.SameBut.update ..) hk, dk⟩
    · rw [List.map_append, List.nodup_append]
      refine ⟨hn, by simp, fun a ha b hb e => ?_⟩
      have eb : b = k := by simpa using hb
      obtain ⟨x, hx, ex⟩ := List.mem_map.mp ha
      obtain ⟨j, hj⟩ := List.mem_iff_getElem?.mp hx
      exact hno j x.2 (by rw [hj, ← eb, ← e, ← ex])
  · rw [atX_some hn hn hj] at hv
    cases hv
end
end Og
/-! The same over the abstract heap: what stands at the store's dict, and the three rules. -/
namespace Og
open PySem PySem.Spec PyProof.Rows L2
/-- an entry of the store: a word; a pair of numbers, held by the tuple at q -/
inductive XK where
  | wd (x : Str)
  | pr (q : Addr) (i j : Nat)
  deriving DecidableEq
def XK.key : XK → NestedKey
  | .wd x => .text x
  | .pr _ i j => .tup [.num i, .num j]
def XK.v : XK → V
  | .wd x => .str x
  | .pr q _ _ => .ref q
/-- the value v is the entry k, in H -/
def XK.At (H : Hp) : XK → Prop
  | .wd _ => True
  | .pr q i j => H q = some (.tup [.int (i : Int), .int (j : Int)])
abbrev KU : List (XK × Nat) → List KVV → Prop := Paired fun p u => u.1 = p.1.key ∧ RelV p.1.v u.2.1 ∧ RelV (.int (p.2 : Int)) u.2.2
def NumP (w : World) (d : Addr) (ks : List (XK × Nat)) : Heap → Prop := fun h => (d == sysModules) = false ∧ ks.length ≤ sizeLine ∧
  ∃ o es ep us, h.get? d = some o ∧ o.ExactDict ∧ o.data = .dict es ep ∧ es.toList = us.map (entX w) ∧ KU ks us ∧ (us.map (·.1)).Nodup
/-- the store's dict -/
def NumD (w : World) (d : Addr) (ks : List (XK × Nat)) : HO := .ext (NumP w d ks)
def numAt (ks : List (XK × Nat)) (k : NestedKey) : Option Nat := (ks.find? fun p => decide (p.1.key = k)).map (·.2)
section
variable {P : Program} {w : World} {H : Hp} {h : Heap} {d : Addr} {ks : List (XK × Nat)}
theorem numP_ok (p : NumP w d ks h) : ObjOk P w H h d (NumD w d ks) := by
  obtain ⟨h1, h2, o, es, ep, us, ho, r⟩ := p
  exact ⟨⟨h1, h2, o, es, ep, us, ho, r⟩, ⟨o, ho⟩, fun a b ⟨h1, h2, o, es, ep, us, ho, r⟩ st => ⟨h1, h2, o, es, ep, us, st o ho, r⟩⟩
theorem key_depth (k : XK) : k.key.depth ≤ 8 := by cases k <;> simp [XK.key, NestedKey.depth, NestedKey.depthAll]
theorem key_is (ok : HOk P w H h) {k : XK} (a : k.At H) {u : Value} (r : RelV k.v u) : NestedIs h k.key u := by
  cases k with
  | wd x =>
    obtain ⟨t, rfl⟩ := (show ∃ t, u = Value.str x t from r)
    exact .text x t
  | pr q i j =>
    cases (show u = Value.ref q from r)
    obtain ⟨_, its, rv, o, h1, h2, n, h3⟩ := (show ObjOk P w H h q (.tup [.int (i : Int), .int (j : Int)]) from ok q _ a)
    refine .tup h1 h2 h3 ?_
    cases rv with
    | cons r1 rv =>
      cases rv with
      | cons r2 rv =>
        cases rv
        obtain ⟨t1, rfl⟩ := r1
        obtain ⟨t2, rfl⟩ := r2
        exact .cons (.int _ _) (.cons (.int _ _) .nil)
theorem numX_of (ok : HOk P w H h) (e : H d = some (NumD w d ks)) (ha : ∀ p ∈ ks, p.1.At H) : (d == sysModules) = false ∧ ks.length ≤ sizeLine ∧ ∃ us, KU ks us ∧ DictX w h d us := by
  obtain ⟨⟨h1, h2, o, es, ep, us, ho, hc, hd, he, ku, nd⟩, _, _⟩ := (show ObjOk P w H h d (NumD w d ks) from ok d _ e)
  refine ⟨h1, h2, us, ku, o, es, ep, ho, hc, hd, he, fun x hx => ?_, nd⟩
  have all : ∀ {l : List (XK × Nat)} {m : List KVV}, KU l m → (∀ p ∈ l, p.1.At H) → ∀ x ∈ m, NestedIs h x.1 x.2.1 ∧ x.1.depth ≤ 8 := by
    intro l m q
    induction q with
    | nil => intro _ x hx; cases hx
    | @cons p q ps qs hq t ih =>
      intro hl x hx
      rcases List.mem_cons.mp hx with rfl | hx
      · rw [hq.1]
        exact ⟨key_is ok (hl p List.mem_cons_self) hq.2.1, key_depth _⟩
      · exact ih (fun p hp => hl p (List.mem_cons_of_mem _ hp)) x hx
  exact all ku ha x hx
theorem atX_num {k : NestedKey} : ∀ {ks : List (XK × Nat)} {us : List KVV}, KU ks us → match numAt ks k with
    | some n => ∃ u, atX us k = some u ∧ RelV (.int (n : Int)) u
    | none => atX us k = none := by
  intro ks us r
  induction r with
  | nil => rfl
  | @cons p u ps us hq t ih =>
    by_cases e : p.1.key = k
    · have e2 : u.1 = k := hq.1.trans e
      have a1 : numAt (p :: ps) k = some p.2 := by simp [numAt, List.find?_cons, e]
      have a2 : atX (u :: us) k = some u.2.2 := by simp [atX, List.find?_cons, e2]
      rw [a1]
      exact ⟨_, a2, hq.2.2⟩
    · have e2 : ¬ u.1 = k := fun z => e (hq.1.symm.trans z)
      have a1 : numAt (p :: ps) k = numAt ps k := by simp [numAt, List.find?_cons, e]
      have a2 : atX (u :: us) k = atX us k := by simp [atX, List.find?_cons, e2]
      rw [a1, a2]
      exact ih
theorem atX_isSome {k : NestedKey} {us : List KVV} (r : KU ks us) : (atX us k).isSome = (numAt ks k).isSome := by
  have h := atX_num (k := k) r
  cases e : numAt ks k with
  | some n =>
    rw [e] at h
    obtain ⟨u, h1, _⟩ := h
    rw [h1] <;> rfl
  | none =>
    rw [e] at h
    have h' : atX us k = none := h
    rw [h'] <;> rfl
end
/-! ### readings and rules -/
def tNumNotIn (w : World) (ty td : TE) : TE := fun σ H Q => ty σ H fun y H1 => td σ H1 fun x H2 => ∃ d ks k, x = .ref d ∧ H2 d = some (NumD w d ks) ∧ (∀ p ∈ ks, p.1.At H2) ∧ y = XK.v k ∧ k.At H2 ∧ Q (.bl (!(numAt ks k.key).isSome)) H2
def tNumGet (w : World) (td ty : TE) : TE := fun σ H Q => td σ H fun x H1 => ty σ H1 fun y H2 => ∃ d ks k n, x = .ref d ∧ H2 d = some (NumD w d ks) ∧ (∀ p ∈ ks, p.1.At H2) ∧ y = XK.v k ∧ k.At H2 ∧ numAt ks k.key = some n ∧ Q (.int (n : Int)) H2
def sNumPut (w : World) (td ty tv : TE) : TS := fun D σ H => tv σ H fun v H1 => td σ H1 fun x H2 => ty σ H2 fun y H3 => ∃ d ks k n, x = .ref d ∧ H3 d = some (NumD w d ks) ∧ (∀ p ∈ ks, p.1.At H3) ∧ y = XK.v k ∧ k.At H3 ∧ v = .int ((n : Nat) : Int) ∧
  numAt ks k.key = none ∧ ks.length < sizeLine ∧ D.nx σ (upd H3 d (NumD w d (ks ++ [(k, n)])))
section
variable {X : Cx} {w : World} {o i e value : Expr} {pos pos' : Pos} {td ty tv : TE}
theorem pc_numNotIn (hw : X.w = w) (hu : X.A.units + 9 < cLine) (hi : PE X i ty) (ho : PE X o td) : PC X .NotIn i o (tNumNotIn w ty td) := by
  subst hw
  refine ⟨fun pins s σ H Q I h => ?_⟩
  refine thn (hi.run pins s σ H _ I h) fun iv s1 ⟨y, H1, I1, ry, q1⟩ => thn (ho.run pins s1 σ H1 _ I1 q1) fun u s2 ⟨x, H2, I2, rx, d, ks, k, ex, e1, e2, ey, e3, q2⟩ => ?_
  subst ex ey
  obtain rfl : u = Value.ref d := rx
  obtain ⟨hd, _, us, ku, dx⟩ := numX_of I2.hok e1 e2
  refine notInX hu (key_is I2.hok e3 ry) (key_depth k) hd dx fun t => ?_
  rw [atX_isSome ku]
  exact ⟨.bl _, H2, I2.tok t, rfl, q2⟩
theorem pe_numGet (hw : X.w = w) (hu : X.A.units + 9 < cLine) (ho : PE X o td) (hi : PE X i ty) (hs : NoSl i) : PE X (.Subscript o i pos) (tNumGet w td ty) := by
  subst hw
  refine ⟨fun pins s σ H Q I h => ?_⟩
  refine subD_of PySem.F.slot_dict_getitem.lookup hs (thn (ho.run pins s σ H _ I h) fun u s1 ⟨x, H1, I1, rx, q1⟩ => thn (hi.run pins s1 σ H1 _ I1 q1) fun iv s2 ⟨y, H2, I2, ry, d, ks, k, n, ex, e1, e2, ey, e3, e4, q2⟩ => ?_)
  subst ex ey
  obtain rfl : u = Value.ref d := rx
  obtain ⟨hd, _, us, ku, dx⟩ := numX_of I2.hok e1 e2
  have hv := atX_num (k := k.key) ku
  rw [e4] at hv
  obtain ⟨v, hv, rv⟩ := hv
  exact ⟨dx.typeIs, itemX hu (key_is I2.hok e3 ry) (key_depth k) dx hv fun t => ⟨.int _, H2, I2.tok t, rv, q2⟩⟩
theorem ps_numPut (hw : X.w = w) (hu : X.A.units + 9 < cLine) (ho : PE X o td) (hi : PE X i ty) (hv : PE X value tv) (hs : swapsWith value (some (.Subscript o i pos')) pos.line X.env = pure false) :
    PS X (.Assign [.Subscript o i pos'] value pos) (sNumPut w td ty tv) := by
  subst hw
  refine ⟨fun pins s σ H D I h => ?_⟩
  refine wpAny_Assign_Subscript (thn (hv.run pins s σ H _ I h) fun r s1 ⟨v, H1, I1, rv, q1⟩ => thn (ho.run pins s1 σ H1 _ I1 q1) fun u s2 ⟨x, H2, I2, rx, q2⟩ => thn (hi.run pins s2 σ H2 _ I2 q2) fun iv s3 ⟨y, H3, I3, ry, d, ks, k, n, ex, e1, e2, ey, e3, ev, e4, e5, q3⟩ => ?_) hs
  subst ex ey ev
  obtain rfl : u = Value.ref d := rx
  obtain ⟨hd, hz, us, ku, dx⟩ := numX_of I3.hok e1 e2
  have hn := atX_num (k := k.key) ku
  rw [e4] at hn
  have hl : us.length = ks.length := ku.length.symm
  refine putX hu (key_is I3.hok e3 ry) (key_depth k) dx hn (by omega) fun h' t dx' hs' => ?_
  obtain ⟨ob, es, ep, ho', hc, hdat, he, his, nd⟩ := dx'
  refine ⟨σ, _, d_write (t' := t) I3 (by rw [e1]; exact True.intro) hs' ⟨ob, ho'⟩ (numP_ok ⟨hd, by rw [List.length_append]; show ks.length + 1 ≤ sizeLine; omega, ob, es, ep, _, ho', hc, hdat, he, ?_, nd⟩), q3⟩
  have app : ∀ {l : List (XK × Nat)} {m : List KVV} {p : XK × Nat} {u : KVV}, KU l m → (u.1 = p.1.key ∧ RelV p.1.v u.2.1 ∧ RelV (.int (p.2 : Int)) u.2.2) → KU (l ++ [p]) (m ++ [u]) := by
    intro l m p u r hp
    induction r with
    | nil => exact .cons hp .nil
    | cons h t ih => exact .cons h ih
  exact app ku ⟨rfl, ry, rv⟩
/-- {} for the store's dict -/
def tNumNew (w : World) : TE := fun _ H Q => ∀ p, H p = none → Q (.ref p) (upd H p (NumD w p []))
theorem pe_numNew (hw : X.w = w) : PE X (.Dict [] [] pos) (tNumNew w) := ⟨fun pins s σ H Q I h => by
  subst hw
  have new : NumP X.w s.heap.objs.size [] (s.heap.push { cls := .type "dict", data := .dict #[] }) :=
    ⟨beq_eq_false_iff_ne.mpr (Ne.symm (Nat.ne_of_lt I.big)), Nat.zero_le _, _, #[], 0, [], Heap.get?_push_size _ rfl, ⟨rfl, rfl, rfl⟩, rfl, rfl, .nil, List.nodup_nil⟩
  exact wpAny_Dict_empty ⟨.ref s.heap.objs.size, _, I.laid (a := s.heap.objs.size) (o := NumD X.w s.heap.objs.size []) (t' := s.toks) (fun _ _ q => Heap.get?_push_of_some _ q) (Nat.le_refl _) (numP_ok new), rfl, h _ (I.hok.fresh (Nat.le_refl _))⟩⟩
end
end Og
/-! The store over the abstract heap. -/
namespace Og
open PySem PySem.Spec L2
/-! ### readings in short -/
section
variable {K : PySem.W.Frag} {σ : St} {H : Hp} {Q : VK}
theorem rd_fld {i : Nat} {f : Str} {p C dx : Addr} {fs : List (Str × V)} {v : V} (hσ : σ[i]? = some (some (.ref p))) (hp : H p = some (.ins C dx fs)) (c : Cls K C) (n : NoAttr K C f) (l : fs.lookup f = some v) (q : Q v H) : tFld K (tVar i) f σ H Q :=
  ⟨_, hσ, p, C, dx, fs, v, rfl, hp, c, n, l, q⟩
theorem atI_of {xs : List V} {i : Nat} {v : V} (h : xs[i]? = some v) : atI xs (i : Int) = some v := atI_nat h
end
/-- whole numbers that the module's names hold -/
structure Nums (mg : Str → Option Value) : Prop where
  empty : ∃ t, mg "EMPTY" = some (.int 0 t)
  parts : ∃ t, mg "MOST_PARTS" = some (.int 200000 t)
  depth : ∃ t, mg "MOST_DEPTH" = some (.int 200 t)
theorem cstI {mg : Str → Option Value} {x : Str} {i : Int} (h : ∃ t, mg x = some (.int i t)) : ∃ u, mg x = some u ∧ RelV (.int i) u := by
  obtain ⟨t, h⟩ := h
  exact ⟨_, h, _, rfl⟩

theorem hu9_of {A : Around} {k : Nat} (hr : Room k A) : A.units + 9 < cLine := Nat.lt_of_le_of_lt (Nat.add_le_add_left (by decide : 9 ≤ 64) _) hr.units
theorem small7 {n : Nat} (h : n ≤ 10000000) : n < sizeLine := Nat.lt_of_le_of_lt h (by decide)
/-! ### what the store's class is -/
structure SCl (K : PySem.W.Frag) (C : Addr) : Prop where
  cl : Cls K C
  nE : NoAttr K C "entries"
  nN : NoAttr K C "numbers"
  nS : NoAttr K C "sizes"
  nD : NoAttr K C "depths"
structure SAd where
  s : Addr
  le : Addr
  nd : Addr
  ls : Addr
  ld : Addr
def SAd.own (a : SAd) : List Addr := [a.le, a.nd, a.ls, a.ld]
def sf (a : SAd) : List (Str × V) := [("entries", .ref a.le), ("numbers", .ref a.nd), ("sizes", .ref a.ls), ("depths", .ref a.ld)]
def XK.ent : XK → Ent
  | .wd x => .wd x
  | .pr _ i j => .pr i j
def entKey : Ent → NestedKey
  | .nil => .none
  | .wd x => .text x
  | .pr i j => .tup [.num i, .num j]
theorem ent_key (k : XK) : entKey k.ent = k.key := by cases k <;> rfl
theorem entKey_inj : ∀ {a b : Ent}, entKey a = entKey b → a = b
  | .nil, .nil, _ => rfl
  | .nil, .wd _, h => nomatch h
  | .nil, .pr _ _, h => nomatch h
  | .wd _, .nil, h => nomatch h
  | .wd _, .pr _ _, h => nomatch h
  | .pr _ _, .nil, h => nomatch h
  | .pr _ _, .wd _, h => nomatch h
  | .wd x, .wd y, h => by
    have e : NestedKey.text x = NestedKey.text y := h
    injection e with e; rw [e]
  | .pr i j, .pr i' j', h => by
    have e : NestedKey.tup [.num (i : Int), .num (j : Int)] = NestedKey.tup [.num (i' : Int), .num (j' : Int)] := h
    injection e with e
    injection e with e1 e2
    injection e2 with e2 _
    injection e1 with e1
    injection e2 with e2
    have := Int.ofNat.inj e1
    have := Int.ofNat.inj e2
    subst_vars
    rfl
def nums (xks : List XK) : List (XK × Nat) := xks.zipIdx 1
theorem numAt_zip (e : Ent) : ∀ (xks : List XK) (i : Nat), numAt (xks.zipIdx i) (entKey e) = if e ∈ xks.map XK.ent then some (i + (xks.map XK.ent).idxOf e) else none
  | [], i => by simp [numAt]
  | k :: xks, i => by
    have ih := numAt_zip e xks (i + 1)
    rw [List.zipIdx_cons]
    by_cases h : k.ent = e
    · have hk : k.key = entKey e := by rw [← h, ent_key]
      have a1 : numAt ((k, i) :: xks.zipIdx (i + 1)) (entKey e) = some i := by simp [numAt, List.find?_cons, hk]
      rw [a1, List.map_cons, h]
      simp
    · have hk : ¬ k.key = entKey e := fun q => h (entKey_inj ((ent_key k).trans q))
      have a1 : numAt ((k, i) :: xks.zipIdx (i + 1)) (entKey e) = numAt (xks.zipIdx (i + 1)) (entKey e) := by simp [numAt, List.find?_cons, hk]
      rw [a1, ih, List.map_cons]
      have hne : ¬ e = k.ent := fun q => h q.symm
      by_cases hm : e ∈ xks.map XK.ent
      · rw [if_pos hm, if_pos (List.mem_cons_of_mem _ hm)]
        have e : (k.ent :: xks.map XK.ent).idxOf e = (xks.map XK.ent).idxOf e + 1 := by
          rw [List.idxOf_cons, show (k.ent == e) = false from beq_eq_false_iff_ne.mpr h] <;> rfl
        rw [e]
        congr 1
        omega
      · rw [if_neg hm, if_neg (by simp only [List.mem_cons, not_or]; exact ⟨hne, hm⟩)]
abbrev vI (n : Nat) : V := .int (n : Int)
structure SVal (w : World) (H : Hp) (a : SAd) (st : Sto) (t0 : Addr) (xks : List XK) (szs dps : List Nat) : Prop where
  hE : H a.le = some (.lst (.ref t0 :: xks.map XK.v))
  h0 : H t0 = some (.tup [])
  hA : ∀ k ∈ xks, k.At H
  hN : H a.nd = some (NumD w a.nd (nums xks))
  hS : H a.ls = some (.lst (szs.map vI))
  hD : H a.ld = some (.lst (dps.map vI))
  es : st = .nil :: xks.map XK.ent
  tab : Tab st szs dps
/-- a store stands at a.s, holding st -/
structure StoreAt (w : World) (C : Addr) (H : Hp) (a : SAd) (st : Sto) : Prop where
  ins : ∃ dx, H a.s = some (.ins C dx (sf a))
  val : ∃ t0 xks szs dps, SVal w H a st t0 xks szs dps
  wf : SWF st
  n1 : a.le ≠ a.ls
  n2 : a.le ≠ a.ld
  n3 : a.ls ≠ a.ld
section
variable {w : World} {C : Addr} {H H' : Hp} {a : SAd} {st : Sto} {S : List Addr}
theorem XK.At.keep (f : ∀ b o, H b = some o → Fix o → H' b = some o) : ∀ {k : XK}, k.At H → k.At H'
  | .wd _, _ => trivial
  | .pr _ _ _, h => f _ _ h trivial
/-- the store stands while its own stands -/
theorem StoreAt.keep (h : StoreAt w C H a st) (f : Frm S H H') (n : a.s ∉ S ∧ a.le ∉ S ∧ a.nd ∉ S ∧ a.ls ∉ S ∧ a.ld ∉ S) : StoreAt w C H' a st := by
  obtain ⟨dx, i⟩ := h.ins
  obtain ⟨t0, xks, szs, dps, v⟩ := h.val
  exact ⟨⟨dx, f.old _ _ i n.1⟩, ⟨t0, xks, szs, dps, f.old _ _ v.hE n.2.1, f.fix _ _ v.h0 trivial, fun k hk => (v.hA k hk).keep f.fix, f.old _ _ v.hN n.2.2.1, f.old _ _ v.hS n.2.2.2.1, f.old _ _ v.hD n.2.2.2.2, v.es, v.tab⟩, h.wf, h.n1, h.n2, h.n3⟩
/-- an entry, as a value -/
def EntV (H : Hp) : Ent → V → Prop
  | .nil, _ => False
  | .wd x, v => v = .str x
  | .pr i j, v => ∃ q, v = .ref q ∧ H q = some (.tup [vI i, vI j])
theorem EntV.xk : ∀ {e : Ent} {v : V}, EntV H e v → ∃ k : XK, k.ent = e ∧ k.v = v ∧ k.At H
  | .nil, _, h => h.elim
  | .wd x, v, h => ⟨.wd x, rfl, (show v = .str x from h).symm, trivial⟩
  | .pr i j, v, ⟨q, h1, h2⟩ => ⟨.pr q i j, rfl, h1.symm, h2⟩
end
end Og
namespace Og
open PySem PySem.Spec L2
section
variable {P : Program} {w : World} {K : PySem.W.Frag} {mg : Str → Option Value} {base : Heap} {CS : Addr}
/-! ### number_of -/
abbrev sNumberOf : Stmt := inClass (top 23) 1
def spNumberOf (w : World) (C : Addr) : Sp := fun vs H Q _ => ∃ (a : SAd) (st : Sto) (e : Ent) (v : V), vs = [.ref a.s, v] ∧ StoreAt w C H a st ∧ EntV H e v ∧ (∀ i j, e = .pr i j → i < st.length ∧ IsL st j) ∧ st.length ≤ 10000000 ∧
  ∀ H', StoreAt w C H' a (numOf st e).1 → Frm a.own H H' → Q (vI (numOf st e).2) H'
theorem scNumberOf : FnScope ["self", "entry", "item", "items"] ["self", "entry"] (defScope sNumberOf) := ⟨rfl, rfl, rfl, by decide +kernel, rfl, by decide +kernel, by decide +kernel⟩
theorem ok_number_of (B : Blt mg) (N : Nums mg) (T : SCl K CS) (g : MDef K CS "number_of" "Store.number_of" sNumberOf []) : C8.Met P w K mg base 1 CS "number_of" (spNumberOf w CS) [] := by
  refine met_of g scNumberOf (fun _ _ _ _ _ _ us hl => match us, hl with | [_, _], _ => rfl) (fun vs H Q E h => ?_) (fun f cdv A outer s H vs Q E hr h => ?_)
  · obtain ⟨a, st, e, v, rfl, _⟩ := h; rfl
  obtain ⟨a, st, e, v, rfl, SA, EV, hp, hl, k⟩ := h
  have nd := scNumberOf.nd
  have hu9 := hu9_of hr
  refine ⟨_, (pss_cons (ps_if (pt_cmp (pc_numNotIn (w := w) rfl hu9 (pv 1) (pe_fld (pv 0) rfl))) (pss_cons (ps_numPut (w := w) rfl hu9 (pe_fld (pv 0) rfl) (pv 1) (pe_callB call_len_seq (by rfl) B.len boot_len (pa_cons (pe_fld (pv 0) rfl) pa_nil)) rfl)
    (pss_cons (ps_expr (pe_bm PySem.F.plainAttrs_list PySem.F.slot_list_append PySem.F.type_list_append mt_append (pe_fld (pv 0) rfl) (pa_cons (pv 1) pa_nil)))
    (pss_one (ps_if (pt_val (pe_callB call_isi (by rfl) B.isinstance (by decide +kernel) (pa_cons (pv 1) (pa_cons (pe_bltn (v := .ty "str") (by rfl) B.str (by decide +kernel) rfl) pa_nil)))) (pss_cons (ps_expr (pe_bm PySem.F.plainAttrs_list PySem.F.slot_list_append PySem.F.type_list_append mt_append (pe_fld (pv 0) rfl) (pa_cons pe_int pa_nil)))
    (pss_one (ps_expr (pe_bm PySem.F.plainAttrs_list PySem.F.slot_list_append PySem.F.type_list_append mt_append (pe_fld (pv 0) rfl) (pa_cons pe_int pa_nil))))) (pss_cons (ps_asg (pv 1) (pg_tup rfl (pgs_cons (pg_name (i := 2) nd rfl (.inl rfl)) (pgs_cons (pg_name (i := 3) nd rfl (.inl rfl)) pgs_nil))))
    (pss_cons (ps_expr (pe_bm PySem.F.plainAttrs_list PySem.F.slot_list_append PySem.F.type_list_append mt_append (pe_fld (pv 0) rfl) (pa_cons (pe_callB (call_min2 rfl) (by rfl) B.min (by decide +kernel) (pa_cons (pe_op op_add (pe_ix ix_list (pe_fld (pv 0) rfl) (pv 2) (fun _ _ => rfl)) (pe_ix ix_list (pe_fld (pv 0) rfl) (pv 3) (fun _ _ => rfl))) (pa_cons (pe_op op_add (C8.pe_gc (v := .int 200000) rfl (cstI N.parts)) pe_int) pa_nil))) pa_nil)))
    (pss_one (ps_expr (pe_bm PySem.F.plainAttrs_list PySem.F.slot_list_append PySem.F.type_list_append mt_append (pe_fld (pv 0) rfl) (pa_cons (pe_callB (call_min2 rfl) (by rfl) B.min (by decide +kernel) (pa_cons (pe_callB (call_max2 rfl) (by rfl) B.max (by decide +kernel) (pa_cons (pe_op op_add (pe_ix ix_list (pe_fld (pv 0) rfl) (pv 2) (fun _ _ => rfl)) pe_int) (pa_cons (pe_ix ix_list (pe_fld (pv 0) rfl) (pv 3) (fun _ _ => rfl)) pa_nil))) (pa_cons (pe_op op_add (C8.pe_gc (v := .int 200) rfl (cstI N.depth)) pe_int) pa_nil))) pa_nil)))))))))) pss_nil)
    (pss_one (ps_ret (pe_numGet (w := w) rfl hu9 (pe_fld (pv 0) rfl) (pv 1) (fun _ _ => rfl))))), ?_⟩
  obtain ⟨dx, hi⟩ := SA.ins
  obtain ⟨t0, xks, szs, dps, SV⟩ := SA.val
  obtain ⟨xk, ek, ev, ea⟩ := EV.xk
  subst ev
  have hne : e ≠ .nil := by rw [← ek]; cases xk <;> exact fun q => nomatch q
  have hA1 : ∀ p ∈ nums xks, p.1.At H := fun p hp => SV.hA p.1 (by
    have := List.mem_zipIdx hp
    exact this.2.2 ▸ List.getElem_mem _)
  have hmem : (e ∈ st) ↔ e ∈ xks.map XK.ent := by rw [SV.es]; simp [hne]
  have hna : numAt (nums xks) xk.key = if e ∈ xks.map XK.ent then some (1 + (xks.map XK.ent).idxOf e) else none := by rw [← ent_key, ek]; exact numAt_zip e xks 1
  refine ⟨_, rfl, rd_fld rfl hi T.cl T.nN rfl ⟨_, _, xk, rfl, SV.hN, hA1, rfl, ea, ?_⟩⟩
  rw [hna]
  by_cases hm : e ∈ xks.map XK.ent
  · rw [if_pos hm]
    refine ⟨_, rfl, iteF ?_⟩
    refine ⟨_, rfl, _, _, _, _, _, rfl, hi, T.cl, T.nN, rfl, _, rfl, _, _, xk, _, rfl, SV.hN, hA1, rfl, ea, (by rw [hna, if_pos hm]), ?_⟩
    have e1 : numOf st e = (st, 1 + (xks.map XK.ent).idxOf e) := by
      unfold numOf
      rw [if_pos (hmem.mpr hm), SV.es, List.idxOf_cons, show ((Ent.nil == e) = false) from beq_eq_false_iff_ne.mpr (Ne.symm hne)]
      simp [Nat.add_comm]
    have k2 := k H (by rw [e1]; exact SA) Frm.refl
    rw [e1] at k2
    exact k2
  · rw [if_neg hm]
    refine ⟨_, rfl, iteT ?_⟩
    have hlx : xks.length + 1 = st.length := by rw [SV.es]; simp
    have nEN : a.le ≠ a.nd := ne_of SV.hE SV.hN (by intro q; cases q)
    have nSN : a.ls ≠ a.nd := ne_of SV.hS SV.hN (by intro q; cases q)
    have nDN : a.ld ≠ a.nd := ne_of SV.hD SV.hN (by intro q; cases q)
    have nsE : a.s ≠ a.le := ne_of hi SV.hE (by intro q; cases q)
    have nsS : a.s ≠ a.ls := ne_of hi SV.hS (by intro q; cases q)
    have nsD : a.s ≠ a.ld := ne_of hi SV.hD (by intro q; cases q)
    have nsN : a.s ≠ a.nd := ne_of hi SV.hN (by intro q; cases q)
    -- self.numbers[entry] = len(self.entries)
    refine ⟨_, rfl, _, _, _, _, _, rfl, hi, T.cl, T.nE, rfl, _, _, rfl, .inl (SqL.of SV.hE), _, rfl, _, _, _, _, _, rfl, hi, T.cl, T.nN, rfl, _, rfl, _, _, xk, st.length, rfl, SV.hN, hA1, rfl, ea, ?_, (by rw [hna, if_neg hm]), (by show (xks.zipIdx 1).length < sizeLine; rw [List.length_zipIdx]; exact small7 (by omega)), ?_⟩
    · rw [← hlx]; simp
    -- self.entries.append(entry)
    have f1 : Frm a.own H (upd H a.nd (NumD w a.nd (nums xks ++ [(xk, st.length)]))) := Frm.upd (by simp [SAd.own]) SV.hN (fun z => z)
    have i1 := (upd_ne (o := NumD w a.nd (nums xks ++ [(xk, st.length)])) nsN).trans hi
    have E1 := (upd_ne (o := NumD w a.nd (nums xks ++ [(xk, st.length)])) nEN).trans SV.hE
    have S1 := (upd_ne (o := NumD w a.nd (nums xks ++ [(xk, st.length)])) nSN).trans SV.hS
    have D1 := (upd_ne (o := NumD w a.nd (nums xks ++ [(xk, st.length)])) nDN).trans SV.hD
    have N1 := upd_same (H := H) (a := a.nd) (o := NumD w a.nd (nums xks ++ [(xk, st.length)]))
    generalize upd H a.nd (NumD w a.nd (nums xks ++ [(xk, st.length)])) = H1 at f1 i1 E1 S1 D1 N1 ⊢
    refine ⟨_, rfl, _, _, _, _, _, rfl, i1, T.cl, T.nE, rfl, .inl ⟨rfl, _, SqL.of E1⟩, _, rfl, a.le, _, _, rfl, rfl, E1, (by rw [List.length_cons, List.length_map]; exact small7 (by omega)), ?_⟩
    have f2 : Frm a.own H (upd H1 a.le (.lst ((.ref t0 :: xks.map XK.v) ++ [xk.v]))) := f1.trans (Frm.upd (by simp [SAd.own]) E1 (fun z => z))
    have i2 := (upd_ne (o := .lst ((.ref t0 :: xks.map XK.v) ++ [xk.v])) nsE).trans i1
    have S2 := (upd_ne (o := .lst ((.ref t0 :: xks.map XK.v) ++ [xk.v])) SA.n1.symm).trans S1
    have D2 := (upd_ne (o := .lst ((.ref t0 :: xks.map XK.v) ++ [xk.v])) SA.n2.symm).trans D1
    have N2 := (upd_ne (o := .lst ((.ref t0 :: xks.map XK.v) ++ [xk.v])) nEN.symm).trans N1
    have E2 := upd_same (H := H1) (a := a.le) (o := .lst ((.ref t0 :: xks.map XK.v) ++ [xk.v]))
    generalize upd H1 a.le (.lst ((.ref t0 :: xks.map XK.v) ++ [xk.v])) = H2 at f2 i2 E2 S2 D2 N2 ⊢
    have eN : numOf st e = (st ++ [e], st.length) := by unfold numOf; rw [if_neg (fun z => hm (hmem.mp z))]
    have k2 := k
    rw [eN] at k2
    have WF := (numOf_spec SA.wf hne hp).1
    rw [eN] at WF
    have es' : st ++ [e] = .nil :: (xks ++ [xk]).map XK.ent := by rw [SV.es, List.map_append, ← ek]; rfl
    have nums' : nums xks ++ [(xk, st.length)] = nums (xks ++ [xk]) := by
      unfold nums
      rw [List.zipIdx_append, ← hlx, Nat.add_comm]
      rfl
    rw [nums'] at N2
    -- the last look: all stands, the answer
    have fin : ∀ H', (∃ dx, H' a.s = some (.ins CS dx (sf a))) → (∃ sz dp, H' a.ls = some (.lst ((szs ++ [sz]).map vI)) ∧ H' a.ld = some (.lst ((dps ++ [dp]).map vI)) ∧ Tab (st ++ [e]) (szs ++ [sz]) (dps ++ [dp])) → H' a.le = H2 a.le → H' a.nd = H2 a.nd → Frm a.own H H' →
        ∃ (d : Addr) (ks : List (XK × Nat)) (k' : XK) (n : Nat), V.ref a.nd = .ref d ∧ H' d = some (NumD w d ks) ∧ (∀ p ∈ ks, p.1.At H') ∧ xk.v = k'.v ∧ k'.At H' ∧ numAt ks k'.key = some n ∧ Q (.int (n : Int)) H' := fun H' hi' ⟨sz, dp, h1, h2, h3⟩ h4 h5 h6 => by
      have A' : ∀ k ∈ xks ++ [xk], k.At H' := fun k hk => by
        rcases List.mem_append.mp hk with hk | hk
        · exact (SV.hA k hk).keep h6.fix
        · rw [List.mem_singleton.mp hk]
          exact ea.keep h6.fix
      refine ⟨a.nd, _, xk, st.length, rfl, h5.trans N2, fun p hp => A' p.1 (by
        have := List.mem_zipIdx hp
        exact this.2.2 ▸ List.getElem_mem _), rfl, ea.keep h6.fix, ?_, k2 H' ⟨hi', ⟨t0, xks ++ [xk], szs ++ [sz], dps ++ [dp], ⟨by rw [h4, E2, List.map_append] <;> rfl, h6.fix _ _ SV.h0 trivial, A', h5.trans N2, h1, h2, es', h3⟩⟩, WF, SA.n1, SA.n2, SA.n3⟩ h6⟩
      have z := numAt_zip e (xks ++ [xk]) 1
      rw [← ek, ent_key, ek] at z
      rw [show nums (xks ++ [xk]) = (xks ++ [xk]).zipIdx 1 from rfl, z, List.map_append, List.map_cons, ek, if_pos (by simp), List.idxOf_append, if_neg hm, List.map_nil, List.length_map]
      simp
      omega
    have szl : szs.length = st.length := SV.tab.ls
    have dpl : dps.length = st.length := SV.tab.ld
    -- both rows behind the test: the sizes, the depths, the answer
    have last : ∀ (sz dp : Nat) (H3 H4 : Hp), H3 = upd H2 a.ls (.lst (szs.map vI ++ [vI sz])) → H4 = upd H3 a.ld (.lst (dps.map vI ++ [vI dp])) → Tab (st ++ [e]) (szs ++ [sz]) (dps ++ [dp]) →
        (∃ dx, H4 a.s = some (.ins CS dx (sf a))) ∧ (∃ sz dp, H4 a.ls = some (.lst ((szs ++ [sz]).map vI)) ∧ H4 a.ld = some (.lst ((dps ++ [dp]).map vI)) ∧ Tab (st ++ [e]) (szs ++ [sz]) (dps ++ [dp])) ∧ H4 a.le = H2 a.le ∧ H4 a.nd = H2 a.nd ∧ Frm a.own H H4 := fun sz dp H3 H4 e3 e4 tb => by
      have D3 : H3 a.ld = some (.lst (dps.map vI)) := by rw [e3, upd_ne SA.n3.symm]; exact D2
      refine ⟨⟨dx, by rw [e4, upd_ne nsD, e3, upd_ne nsS]; exact i2⟩, ⟨sz, dp, by rw [e4, upd_ne SA.n3, e3, upd_same, List.map_append] <;> rfl, by rw [e4, upd_same, List.map_append] <;> rfl, tb⟩, by rw [e4, upd_ne SA.n2, e3, upd_ne SA.n1], by rw [e4, upd_ne nDN.symm, e3, upd_ne nSN.symm], ?_⟩
      have f3 : Frm a.own H H3 := f2.trans (by rw [e3]; exact Frm.upd (by simp [SAd.own]) S2 (fun z => z))
      rw [e4]
      exact f3.trans (Frm.upd (by simp [SAd.own]) D3 (fun z => z))
    have D3 : ∀ sz, upd H2 a.ls (.lst (szs.map vI ++ [vI sz])) a.ld = some (.lst (dps.map vI)) := fun sz => (upd_ne SA.n3.symm).trans D2
    have i3 : ∀ sz, upd H2 a.ls (.lst (szs.map vI ++ [vI sz])) a.s = some (.ins CS dx (sf a)) := fun sz => (upd_ne nsS).trans i2
    cases e with
    | nil => exact absurd rfl hne
    | wd x =>
      have hv : xk.v = .str x := EV
      refine ⟨_, rfl, _, _, .type "str", .type "str", true, rfl, .ty _, (by rw [hv]; exact .base (.str _)), kit_ty (by decide +kernel), _, rfl, iteT ?_⟩
      refine ⟨_, rfl, _, _, _, _, _, rfl, i2, T.cl, T.nS, rfl, .inl ⟨rfl, _, SqL.of S2⟩, a.ls, _, _, rfl, rfl, S2, (by rw [List.length_map]; exact small7 (by omega)), ?_⟩
      refine ⟨_, rfl, _, _, _, _, _, rfl, i3 1, T.cl, T.nD, rfl, .inl ⟨rfl, _, SqL.of (D3 1)⟩, a.ld, _, _, rfl, rfl, D3 1, (by rw [List.length_map]; exact small7 (by omega)), ?_⟩
      obtain ⟨g1, g2, g3, g4, g5⟩ := last 1 0 _ _ rfl rfl (SV.tab.snoc (by show (szs ++ [1])[st.length]? = some 1; rw [← szl]; simp) (by show (dps ++ [0])[st.length]? = some 0; rw [← dpl]; simp))
      obtain ⟨dx', g1'⟩ := id g1
      refine ⟨_, rfl, _, _, _, _, _, rfl, g1', T.cl, T.nN, rfl, _, rfl, ?_⟩
      exact fin _ g1 g2 g3 g4 g5
    | pr i j =>
      obtain ⟨qa, hv, hq⟩ := EV
      obtain ⟨hi1, hj1⟩ := hp i j rfl
      have hq2 : H2 qa = some (.tup [vI i, vI j]) := f2.fix _ _ hq trivial
      have gs : ∀ n, n < st.length → ∃ z, szs[n]? = some z := fun n hn => ⟨_, List.getElem?_eq_getElem (by rw [szl]; exact hn)⟩
      have gd : ∀ n, n < st.length → ∃ z, dps[n]? = some z := fun n hn => ⟨_, List.getElem?_eq_getElem (by rw [dpl]; exact hn)⟩
      obtain ⟨za, ha⟩ := gs i hi1
      obtain ⟨zb, hb⟩ := gs j hj1.lt
      obtain ⟨da, hda⟩ := gd i hi1
      obtain ⟨db, hdb⟩ := gd j hj1.lt
      refine ⟨_, rfl, _, _, .type "tuple", .type "str", false, rfl, .ty _, (by rw [hv]; exact .base (.tup hq2)), kit_ty (by decide +kernel), _, rfl, iteF ?_⟩
      -- item, items = entry
      refine ⟨_, rfl, qa, _, hv, SqT.of hq2, rfl, _, _, rfl, _, _, rfl, rfl, ?_⟩
      -- self.sizes.append(min(self.sizes[item] + self.sizes[items], MOST_PARTS + 1))
      refine ⟨_, rfl, _, _, _, _, _, rfl, i2, T.cl, T.nS, rfl, .inl ⟨rfl, _, SqL.of S2⟩, ?_⟩
      refine ⟨_, rfl, _, _, _, _, _, rfl, i2, T.cl, T.nS, rfl, _, rfl, a.ls, _, _, _, rfl, rfl, SqL.of S2, atI_of (i := i) (by rw [List.getElem?_map, ha] <;> rfl), ?_⟩
      refine ⟨_, rfl, _, _, _, _, _, rfl, i2, T.cl, T.nS, rfl, _, rfl, a.ls, _, _, _, rfl, rfl, SqL.of S2, atI_of (i := j) (by rw [List.getElem?_map, hb] <;> rfl), _, _, rfl, rfl, _, _, rfl, rfl, ?_⟩
      have em : (if (200000 : Int) + 1 < (za : Int) + (zb : Int) then (200000 : Int) + 1 else (za : Int) + (zb : Int)) = ((min (za + zb) 200001 : Nat) : Int) := by split <;> omega
      have ed : (if (200 : Int) + 1 < (if (db : Int) > (da : Int) + 1 then (db : Int) else (da : Int) + 1) then (200 : Int) + 1 else (if (db : Int) > (da : Int) + 1 then (db : Int) else (da : Int) + 1)) = ((min (max (da + 1) db) 201 : Nat) : Int) := by split <;> split <;> omega
      refine ⟨_, _, rfl, ?_⟩
      rw [em]
      refine ⟨a.ls, _, _, rfl, rfl, S2, (by rw [List.length_map]; exact small7 (by omega)), ?_⟩
      -- self.depths.append(min(max(self.depths[item] + 1, self.depths[items]), MOST_DEPTH + 1))
      refine ⟨_, rfl, _, _, _, _, _, rfl, i3 _, T.cl, T.nD, rfl, .inl ⟨rfl, _, SqL.of (D3 _)⟩, ?_⟩
      refine ⟨_, rfl, _, _, _, _, _, rfl, i3 _, T.cl, T.nD, rfl, _, rfl, a.ld, _, _, _, rfl, rfl, SqL.of (D3 _), atI_of (i := i) (by rw [List.getElem?_map, hda] <;> rfl), _, _, rfl, rfl, ?_⟩
      refine ⟨_, rfl, _, _, _, _, _, rfl, i3 _, T.cl, T.nD, rfl, _, rfl, a.ld, _, _, _, rfl, rfl, SqL.of (D3 _), atI_of (i := j) (by rw [List.getElem?_map, hdb] <;> rfl), ?_⟩
      refine ⟨_, _, rfl, _, _, rfl, rfl, ?_⟩
      refine ⟨_, _, rfl, ?_⟩
      rw [ed]
      refine ⟨a.ld, _, _, rfl, rfl, D3 _, (by rw [List.length_map]; exact small7 (by omega)), ?_⟩
      obtain ⟨g1, g2, g3, g4, g5⟩ := last (min (za + zb) 200001) (min (max (da + 1) db) 201) _ _ rfl rfl (SV.tab.snoc ⟨za, zb, get_app ha, get_app hb, by rw [← szl]; simp⟩ ⟨da, db, get_app hda, get_app hdb, by rw [← dpl]; simp⟩)
      obtain ⟨dx', g1'⟩ := id g1
      refine ⟨_, rfl, _, _, _, _, _, rfl, g1', T.cl, T.nN, rfl, _, rfl, ?_⟩
      exact fin _ g1 g2 g3 g4 g5
end
end Og
namespace Og
open PySem PySem.Spec L2
section
variable {P : Program} {w : World} {K : PySem.W.Frag} {mg : Str → Option Value} {base : Heap} {CS : Addr}
def isWd (st : Sto) (n : Nat) : Bool := match st[n]? with
  | some (.wd _) => true
  | _ => false
/-- what the entries list holds -/
def EntAt (H : Hp) (v : V) : Ent → Prop
  | .nil => ∃ t, v = .ref t ∧ H t = some (.tup [])
  | .wd x => v = .str x
  | .pr i j => ∃ q, v = .ref q ∧ H q = some (.tup [vI i, vI j])
theorem StoreAt.at {H : Hp} {a : SAd} {st : Sto} (SA : StoreAt w CS H a st) : ∃ es : List V, H a.le = some (.lst es) ∧ ∀ (n : Nat) (e : Ent), st[n]? = some e → ∃ v, es[n]? = some v ∧ EntAt H v e := by
  obtain ⟨t0, xks, szs, dps, SV⟩ := SA.val
  refine ⟨_, SV.hE, fun n e hn => ?_⟩
  rw [SV.es] at hn
  cases n with
  | zero =>
    have e0 : Ent.nil = e := by simpa using hn
    subst e0
    exact ⟨_, rfl, t0, rfl, SV.h0⟩
  | succ n =>
    have hn' : (xks.map XK.ent)[n]? = some e := by simpa using hn
    rw [List.getElem?_map] at hn'
    obtain ⟨k, hk, ek⟩ := Option.map_eq_some_iff.mp hn'
    refine ⟨k.v, by simp [hk], ?_⟩
    have hA := SV.hA k (List.mem_of_getElem? hk)
    subst ek
    cases k with
    | wd x => rfl
    | pr q i j => exact ⟨q, rfl, hA⟩
theorem get_lt {st : Sto} {n : Nat} (h : n < st.length) : ∃ e, st[n]? = some e := ⟨_, List.getElem?_eq_getElem h⟩
/-! ### is_word -/
abbrev sSIsWord : Stmt := inClass (top 23) 2
def spSIsWord (w : World) (C : Addr) : Sp := fun vs H Q _ => ∃ (a : SAd) (st : Sto) (n : Nat), vs = [.ref a.s, vI n] ∧ StoreAt w C H a st ∧ n < st.length ∧ Q (.bl (isWd st n)) H
theorem scSIsWord : FnScope ["self", "number"] ["self", "number"] (defScope sSIsWord) := ⟨rfl, rfl, rfl, by decide +kernel, rfl, by decide +kernel, by decide +kernel⟩
theorem ok_s_is_word (B : Blt mg) (T : SCl K CS) (g : MDef K CS "is_word" "Store.is_word" sSIsWord []) : C8.Met P w K mg base 1 CS "is_word" (spSIsWord w CS) [] := by
  refine met_of g scSIsWord (fun _ _ _ _ _ _ us hl => match us, hl with | [_, _], _ => rfl) (fun vs H Q E h => ?_) (fun f cdv A outer s H vs Q E hr h => ?_)
  · obtain ⟨a, st, n, rfl, _⟩ := h; rfl
  obtain ⟨a, st, n, rfl, SA, hn, k⟩ := h
  obtain ⟨dx, hi⟩ := SA.ins
  refine ⟨_, (pss_one (ps_ret (pe_callB call_isi (by rfl) B.isinstance (by decide +kernel) (pa_cons (pe_ix ix_list (pe_fld (pv 0) rfl) (pv 1) (fun _ _ => rfl)) (pa_cons (pe_bltn (v := .ty "str") (by rfl) B.str (by decide +kernel) rfl) pa_nil))))), ?_⟩
  obtain ⟨es, hE, hat⟩ := SA.at
  obtain ⟨e, he⟩ := get_lt hn
  obtain ⟨v, hv, hm⟩ := hat n e he
  refine ⟨_, rfl, _, _, _, _, _, rfl, hi, T.cl, T.nE, rfl, _, rfl, a.le, _, _, _, rfl, rfl, SqL.of hE, atI_of hv, ?_⟩
  have hb : ∀ b, isWd st n = b → Q (.bl b) H := fun b e => by rw [← e]; exact k
  cases e with
  | nil =>
    obtain ⟨t, rfl, ht⟩ := hm
    exact ⟨_, _, .type "tuple", .type "str", false, rfl, .ty _, .base (.tup ht), kit_ty (by decide +kernel), hb _ (by unfold isWd; rw [he])⟩
  | wd x =>
    cases (show v = .str x from hm)
    exact ⟨_, _, .type "str", .type "str", true, rfl, .ty _, .base (.str _), kit_ty (by decide +kernel), hb _ (by unfold isWd; rw [he])⟩
  | pr i j =>
    obtain ⟨t, rfl, ht⟩ := hm
    exact ⟨_, _, .type "tuple", .type "str", false, rfl, .ty _, .base (.tup ht), kit_ty (by decide +kernel), hb _ (by unfold isWd; rw [he])⟩
/-! ### first, rest -/
abbrev sFirst : Stmt := inClass (top 23) 3
abbrev sRest : Stmt := inClass (top 23) 4
def spFirst (w : World) (C : Addr) (g : Sto → Nat → Nat) : Sp := fun vs H Q _ => ∃ (a : SAd) (st : Sto) (n : Nat), vs = [.ref a.s, vI n] ∧ StoreAt w C H a st ∧ n < st.length ∧ Q (vI (g st n)) H
theorem scFirst : FnScope ["self", "number"] ["self", "number"] (defScope sFirst) := ⟨rfl, rfl, rfl, by decide +kernel, rfl, by decide +kernel, by decide +kernel⟩
theorem scRest : FnScope ["self", "number"] ["self", "number"] (defScope sRest) := ⟨rfl, rfl, rfl, by decide +kernel, rfl, by decide +kernel, by decide +kernel⟩
theorem dec0 (n : Nat) : decide (vI n = V.int 0) = decide (n = 0) := by
  by_cases h : n = 0
  · subst h; rfl
  · rw [decide_eq_false h, decide_eq_false (fun q => h (by injection q with q; omega))]
def entWd : Ent → Bool
  | .wd _ => true
  | _ => false
theorem isWd_of {st : Sto} {n : Nat} {e : Ent} (h : st[n]? = some e) : isWd st n = entWd e := by unfold isWd; rw [h]; cases e <;> rfl
theorem ok_first (N : Nums mg) (T : SCl K CS) (c_is_word : C8.Met P w K mg base 1 CS "is_word" (spSIsWord w CS) []) (g : MDef K CS "first" "Store.first" sFirst []) : C8.Met P w K mg base 2 CS "first" (spFirst w CS firstN) [] := by
  refine met_of g scFirst (fun _ _ _ _ _ _ us hl => match us, hl with | [_, _], _ => rfl) (fun vs H Q E h => ?_) (fun f cdv A outer s H vs Q E hr h => ?_)
  · obtain ⟨a, st, n, rfl, _⟩ := h; rfl
  obtain ⟨a, st, n, rfl, SA, hn, k⟩ := h
  obtain ⟨dx, hi⟩ := SA.ins
  refine ⟨_, (pss_cons (ps_if (PW.pt (pw_or (pt_cmpR op_eq (pv 1) (C8.pe_gc (v := .int 0) rfl (cstI N.empty)) (nomark _)) (pw_or1 (pt_val (C8.pe_mt c_is_word hr (by decide) (pv 0) (pa_cons (pv 1) pa_nil)))))) (pss_one (ps_ret (C8.pe_gc (v := .int 0) rfl (cstI N.empty)))) pss_nil)
    (pss_one (ps_ret (pe_ix ix_tup (pe_ix ix_list (pe_fld (pv 0) rfl) (pv 1) (fun _ _ => rfl)) pe_int (fun _ _ => rfl))))), ?_⟩
  obtain ⟨es, hE, hat⟩ := SA.at
  obtain ⟨e, he⟩ := get_lt hn
  obtain ⟨v, hv, hm⟩ := hat n e he
  refine ⟨_, rfl, rfl, _, rfl, ?_⟩
  rw [dec0]
  have k0 : firstN st n = 0 → Q (.int 0) H := fun e => by rw [e] at k; exact k
  refine ite2 (fun h0 => ?_) (fun h0 => ?_)
  · refine iteT (k0 ?_)
    have := of_decide_eq_true h0
    subst this
    unfold firstN
    rw [SA.wf.z]
  · have n0 : n ≠ 0 := of_decide_eq_false (Bool.eq_false_iff.mpr h0)
    refine ⟨_, rfl, a.s, dx, _, rfl, hi, rfl, _, rfl, a, st, n, rfl, SA, hn, _, rfl, ?_⟩
    rw [isWd_of he]
    cases e with
    | nil => exact absurd (SA.wf.ok _ _ he) n0
    | wd x => exact iteT (k0 (by unfold firstN; rw [he]))
    | pr i j =>
      obtain ⟨t, rfl, ht⟩ := hm
      refine iteF ⟨_, rfl, _, _, _, _, _, rfl, hi, T.cl, T.nE, rfl, _, rfl, a.le, _, _, _, rfl, rfl, SqL.of hE, atI_of hv, t, _, 0, _, rfl, rfl, SqT.of ht, rfl, ?_⟩
      have : firstN st n = i := by unfold firstN; rw [he]
      rw [this] at k
      exact k
theorem ok_rest (N : Nums mg) (T : SCl K CS) (c_is_word : C8.Met P w K mg base 1 CS "is_word" (spSIsWord w CS) []) (g : MDef K CS "rest" "Store.rest" sRest []) : C8.Met P w K mg base 2 CS "rest" (spFirst w CS restN) [] := by
  refine met_of g scRest (fun _ _ _ _ _ _ us hl => match us, hl with | [_, _], _ => rfl) (fun vs H Q E h => ?_) (fun f cdv A outer s H vs Q E hr h => ?_)
  · obtain ⟨a, st, n, rfl, _⟩ := h; rfl
  obtain ⟨a, st, n, rfl, SA, hn, k⟩ := h
  obtain ⟨dx, hi⟩ := SA.ins
  refine ⟨_, (pss_cons (ps_if (PW.pt (pw_or (pt_cmpR op_eq (pv 1) (C8.pe_gc (v := .int 0) rfl (cstI N.empty)) (nomark _)) (pw_or1 (pt_val (C8.pe_mt c_is_word hr (by decide) (pv 0) (pa_cons (pv 1) pa_nil)))))) (pss_one (ps_ret (C8.pe_gc (v := .int 0) rfl (cstI N.empty)))) pss_nil)
    (pss_one (ps_ret (pe_ix ix_tup (pe_ix ix_list (pe_fld (pv 0) rfl) (pv 1) (fun _ _ => rfl)) pe_int (fun _ _ => rfl))))), ?_⟩
  obtain ⟨es, hE, hat⟩ := SA.at
  obtain ⟨e, he⟩ := get_lt hn
  obtain ⟨v, hv, hm⟩ := hat n e he
  refine ⟨_, rfl, rfl, _, rfl, ?_⟩
  rw [dec0]
  have k0 : restN st n = 0 → Q (.int 0) H := fun e => by rw [e] at k; exact k
  refine ite2 (fun h0 => ?_) (fun h0 => ?_)
  · refine iteT (k0 ?_)
    have := of_decide_eq_true h0
    subst this
    unfold restN
    rw [SA.wf.z]
  · have n0 : n ≠ 0 := of_decide_eq_false (Bool.eq_false_iff.mpr h0)
    refine ⟨_, rfl, a.s, dx, _, rfl, hi, rfl, _, rfl, a, st, n, rfl, SA, hn, _, rfl, ?_⟩
    rw [isWd_of he]
    cases e with
    | nil => exact absurd (SA.wf.ok _ _ he) n0
    | wd x => exact iteT (k0 (by unfold restN; rw [he]))
    | pr i j =>
      obtain ⟨t, rfl, ht⟩ := hm
      refine iteF ⟨_, rfl, _, _, _, _, _, rfl, hi, T.cl, T.nE, rfl, _, rfl, a.le, _, _, _, rfl, rfl, SqL.of hE, atI_of hv, t, _, 1, _, rfl, rfl, SqT.of ht, rfl, ?_⟩
      have : restN st n = j := by unfold restN; rw [he]
      rw [this] at k
      exact k
/-! ### pair_up -/
abbrev sPairUp : Stmt := inClass (top 23) 5
def spPairUp (w : World) (C : Addr) : Sp := fun vs H Q _ => ∃ (a : SAd) (st : Sto) (i j : Nat), vs = [.ref a.s, vI i, vI j] ∧ StoreAt w C H a st ∧ i < st.length ∧ j < st.length ∧ st.length ≤ 10000000 ∧
  ∀ H', StoreAt w C H' a (joinN st i j).1 → Frm a.own H H' → Q (vI (joinN st i j).2) H'
theorem scPairUp : FnScope ["self", "item", "items"] ["self", "item", "items"] (defScope sPairUp) := ⟨rfl, rfl, rfl, by decide +kernel, rfl, by decide +kernel, by decide +kernel⟩
theorem tailOf_isL {st : Sto} (W : SWF st) {j : Nat} (h : j < st.length) : IsL st (tailOf st j) ∧ tailOf st j = if isWd st j = true then 0 else j := by
  obtain ⟨e, he⟩ := get_lt h
  unfold tailOf isWd
  rw [he]
  cases e with
  | nil => exact ⟨.inl he, rfl⟩
  | wd x => exact ⟨.inl W.z, rfl⟩
  | pr i j => exact ⟨.inr ⟨_, _, he⟩, rfl⟩
theorem StoreAt.sOwn {H : Hp} {a : SAd} {st : Sto} (SA : StoreAt w CS H a st) : a.s ∉ a.own := by
  obtain ⟨dx, hi⟩ := SA.ins
  obtain ⟨t0, xks, szs, dps, SV⟩ := SA.val
  have h1 : a.s ≠ a.le := ne_of hi SV.hE (by intro q; cases q)
  have h2 : a.s ≠ a.nd := ne_of hi SV.hN (by intro q; cases q)
  have h3 : a.s ≠ a.ls := ne_of hi SV.hS (by intro q; cases q)
  have h4 : a.s ≠ a.ld := ne_of hi SV.hD (by intro q; cases q)
  simp [SAd.own, h1, h2, h3, h4]
theorem StoreAt.some {H : Hp} {a : SAd} {st : Sto} (SA : StoreAt w CS H a st) : ∀ b ∈ a.s :: a.own, ∃ o, H b = some o ∧ ¬ Fix o := by
  obtain ⟨dx, hi⟩ := SA.ins
  obtain ⟨t0, xks, szs, dps, SV⟩ := SA.val
  intro b hb
  simp only [SAd.own, List.mem_cons, List.not_mem_nil, or_false] at hb
  rcases hb with rfl | rfl | rfl | rfl | rfl
  · exact ⟨_, hi, fun z => z⟩
  · exact ⟨_, SV.hE, fun z => z⟩
  · exact ⟨_, SV.hN, fun z => z⟩
  · exact ⟨_, SV.hS, fun z => z⟩
  · exact ⟨_, SV.hD, fun z => z⟩
/-- a store stands while all that stood stands -/
theorem StoreAt.same {H H' : Hp} {a : SAd} {st : Sto} (SA : StoreAt w CS H a st) (f : Same H H') : StoreAt w CS H' a st := SA.keep (S := []) (Frm.of_same f) (by simp)
theorem Same.new {H : Hp} {p : Addr} {o : HO} (h : H p = none) : Same H (upd H p o) := fun b u q => by rw [upd_ne (ne_of_none q h)]; exact q
theorem ok_pair_up (N : Nums mg) (T : SCl K CS) (c_is_word : C8.Met P w K mg base 1 CS "is_word" (spSIsWord w CS) []) (c_number_of : C8.Met P w K mg base 1 CS "number_of" (spNumberOf w CS) []) (g : MDef K CS "pair_up" "Store.pair_up" sPairUp []) : C8.Met P w K mg base 2 CS "pair_up" (spPairUp w CS) [] := by
  refine met_of g scPairUp (fun _ _ _ _ _ _ us hl => match us, hl with | [_, _, _], _ => rfl) (fun vs H Q E h => ?_) (fun f cdv A outer s H vs Q E hr h => ?_)
  · obtain ⟨a, st, i, j, rfl, _⟩ := h; rfl
  obtain ⟨a, st, i, j, rfl, SA, hi, hj, hl, k⟩ := h
  have nd := scPairUp.nd
  obtain ⟨dx, hI⟩ := SA.ins
  refine ⟨_, (pss_cons (ps_if (pt_val (C8.pe_mt c_is_word hr (by decide) (pv 0) (pa_cons (pv 2) pa_nil))) (pss_one (ps_set (i := 2) nd rfl (.inl rfl) (C8.pe_gc (v := .int 0) rfl (cstI N.empty)))) pss_nil)
    (pss_one (ps_ret (C8.pe_mt c_number_of hr (by decide) (pv 0) (pa_cons (pe_tup (pa_cons (pv 1) (pa_cons (pv 2) pa_nil))) pa_nil))))), ?_⟩
  obtain ⟨hL, hT⟩ := tailOf_isL SA.wf hj
  refine ⟨_, rfl, a.s, dx, _, rfl, hI, rfl, _, rfl, a, st, j, rfl, SA, hj, _, rfl, ?_⟩
  have fin : ∀ p, H p = none → spNumberOf w CS [.ref a.s, .ref p] (upd H p (.tup [vI i, vI (tailOf st j)])) Q E0 := fun p hp =>
    ⟨a, st, .pr i (tailOf st j), _, rfl, SA.same (Same.new hp), ⟨p, rfl, upd_same⟩, fun i' j' e => by cases e; exact ⟨hi, hL⟩, hl, fun H' S' f => k H' S' ((Frm.new hp).trans f)⟩
  refine ite2 (fun hw => ?_) (fun hw => ?_)
  · rw [if_pos hw] at hT
    rw [hT] at fin
    refine ⟨_, rfl, a.s, dx, _, rfl, hI, rfl, _, rfl, _, rfl, (by show 2 ≤ sizeLine; decide), fun p hp => fin p hp⟩
  · rw [if_neg hw] at hT
    rw [hT] at fin
    refine ⟨_, rfl, a.s, dx, _, rfl, hI, rfl, _, rfl, _, rfl, (by show 2 ≤ sizeLine; decide), fun p hp => fin p hp⟩
end
end Og
namespace Og
open PySem PySem.Spec L2
/-- for over reversed(list) -/
theorem for_rev {K : PySem.W.Frag} {a : Addr} {xs : List V} {g : TG} {tb : TS} {D : Ends} {σ : L2.St} {H : Hp} (Pv : Nat → L2.St → Hp → Prop) (h0 : Pv 0 σ H) (hl : ∀ i σ H, i ≤ xs.length → Pv i σ H → SqL K H a xs)
    (hs : ∀ i x σ H, i < xs.length → xs[xs.length - 1 - i]? = some x → Pv i σ H → g x σ H fun σ2 H2 => tb { D with nx := Pv (i + 1), ct := Pv (i + 1), bk := D.nx } σ2 H2) (hd : ∀ σ H, Pv xs.length σ H → D.nx σ H) :
    ∃ W : Nat → Nat → L2.St → Hp → Prop, (∃ m, W 0 m σ H) ∧ ∀ i m σ H, W i m σ H →
      ((Itv K a xs.length).stop i H ∧ D.nx σ H) ∨ ((Itv K a xs.length).go i H ∧ ∃ N : L2.St → Hp → Prop, (∀ σ' H', N σ' H' → ∃ m', m' < m ∧ W (i + 1) m' σ' H') ∧ ∀ x H', (Itv K a xs.length).yld i H x H' → g x σ H' fun σ2 H2 => tb { D with nx := N, ct := N, bk := D.nx } σ2 H2) := by
  refine ⟨fun i m σ H => m = xs.length - i ∧ i ≤ xs.length ∧ Pv i σ H, ⟨xs.length, by simp, Nat.zero_le _, h0⟩, ?_⟩
  rintro i m σ H ⟨rfl, hi, p⟩
  have q := hl i σ H hi p
  by_cases hlt : i < xs.length
  · have hx : xs[xs.length - 1 - i]? = some (xs[xs.length - 1 - i]'(by omega)) := List.getElem?_eq_getElem _
    refine .inr ⟨⟨hlt, xs, _, q, hx⟩, Pv (i + 1), fun σ' H' p' => ⟨xs.length - (i + 1), by omega, rfl, hlt, p'⟩, fun x H' y => ?_⟩
    obtain ⟨e, y⟩ := y
    subst e
    exact hs i x σ _ hlt (y xs q) p
  · have e : i = xs.length := by omega
    subst e
    exact .inl ⟨Nat.le_refl _, hd σ H p⟩
section
variable {P : Program} {w : World} {K : PySem.W.Frag} {mg : Str → Option Value} {base : Heap} {CS : Addr}
/-! ### items_of -/
abbrev sItemsOf : Stmt := inClass (top 23) 7
def spItemsOf (w : World) (C : Addr) : Sp := fun vs H Q _ => ∃ (a : SAd) (st : Sto) (n : Nat) (ns : List Nat), vs = [.ref a.s, vI n] ∧ StoreAt w C H a st ∧ Its st n ns ∧ st.length ≤ 10000000 ∧
  ∀ H' p, Same H H' → H p = none → H' p = some (.lst (ns.map vI)) → Q (.ref p) H'
theorem scItemsOf : FnScope ["self", "number", "found", "item"] ["self", "number"] (defScope sItemsOf) := ⟨rfl, rfl, rfl, by decide +kernel, rfl, by decide +kernel, by decide +kernel⟩
theorem ok_items_of (N : Nums mg) (T : SCl K CS) (g : MDef K CS "items_of" "Store.items_of" sItemsOf []) : C8.Met P w K mg base 1 CS "items_of" (spItemsOf w CS) [] := by
  refine met_of g scItemsOf (fun _ _ _ _ _ _ us hl => match us, hl with | [_, _], _ => rfl) (fun vs H Q E h => ?_) (fun f cdv A outer s H vs Q E hr h => ?_)
  · obtain ⟨a, st, n, ns, rfl, _⟩ := h; rfl
  obtain ⟨a, st, n, ns, rfl, SA, hI, hl, k⟩ := h
  have nd := scItemsOf.nd
  refine ⟨_, (pss_cons (ps_set (i := 2) nd rfl (.inl rfl) (pe_lst pa_nil))
    (pss_cons (ps_while PassesOwn.never (pt_cmpR op_ne (pv 1) (C8.pe_gc (v := .int 0) rfl (cstI N.empty)) (nomark _)) (pss_cons (ps_asg (pe_ix ix_list (pe_fld (pv 0) rfl) (pv 1) (fun _ _ => rfl)) (pg_tup rfl (pgs_cons (pg_name (i := 3) nd rfl (.inl rfl)) (pgs_cons (pg_name (i := 1) nd rfl (.inl rfl)) pgs_nil))))
    (pss_one (ps_expr (pe_bm PySem.F.plainAttrs_list PySem.F.slot_list_append PySem.F.type_list_append mt_append (pv 2) (pa_cons (pv 3) pa_nil))))))
    (pss_one (ps_ret (pv 2))))), ?_⟩
  refine ⟨Nat.zero_le _, fun p hp => ?_⟩
  have hlen := Its.len SA.wf hI
  have hnl := (Its.isL hI).lt
  refine ⟨fun m σ H' => ∃ (i : Nat) (n1 n2 : List Nat) (o : Option V), ns = n1 ++ n2 ∧ Its st i n2 ∧ m = n2.length ∧ σ = [some (.ref a.s), some (vI i), some (.ref p), o] ∧ Same H H' ∧ H' p = some (.lst (n1.map vI)),
    ⟨_, n, [], ns, none, rfl, hI, rfl, rfl, Same.new hp, upd_same⟩, ?_⟩
  rintro m σ H' ⟨i, n1, n2, o, rfl, hI2, rfl, rfl, hS, hL⟩
  have SA2 := SA.same hS
  obtain ⟨dx, hi⟩ := SA2.ins
  obtain ⟨es, hE, hat⟩ := SA2.at
  refine ⟨_, rfl, rfl, _, rfl, ?_⟩
  rw [dec0]
  cases hI2 with
  | nil h =>
    have z : i = 0 := SA.wf.ok _ _ h
    subst z
    refine iteF ⟨_, rfl, ?_⟩
    rw [List.append_nil] at k
    exact k H' p hS hp hL
  | @pr _ j j' ns' h h2 =>
    have z : i ≠ 0 := fun z => by
      subst z
      rw [SA.wf.z] at h
      cases h
    obtain ⟨v, hv, hm⟩ := hat i _ h
    obtain ⟨t, rfl, ht⟩ := hm
    rw [decide_eq_false z]
    refine iteT ⟨fun σ' H2 => ∃ (n1' : List Nat) (o : Option V), n1' = n1 ++ [j] ∧ σ' = [some (.ref a.s), some (vI j'), some (.ref p), o] ∧ Same H H2 ∧ H2 p = some (.lst (n1'.map vI)), ?_, ?_⟩
    · rintro σ' H2 ⟨n1', o', rfl, rfl, hS', hL'⟩
      exact ⟨ns'.length, by simp, j', n1 ++ [j], ns', o', by simp, h2, rfl, rfl, hS', hL'⟩
    · refine ⟨_, rfl, _, _, _, _, _, rfl, hi, T.cl, T.nE, rfl, _, rfl, a.le, _, _, _, rfl, rfl, SqL.of hE, atI_of hv, ?_⟩
      refine ⟨t, _, rfl, SqT.of ht, rfl, _, _, rfl, _, _, rfl, rfl, ?_⟩
      have hlen1 : n1.length ≤ 10000000 := by
        simp only [List.length_append] at hlen
        omega
      refine ⟨_, rfl, .inl ⟨rfl, _, SqL.of hL⟩, _, rfl, p, _, _, rfl, rfl, hL, (by rw [List.length_map]; exact small7 hlen1), ?_⟩
      refine ⟨_, _, rfl, rfl, fun b u q => ?_, ?_⟩
      · rw [upd_ne (ne_of_none q hp)]
        exact hS b u q
      · rw [upd_same, List.map_append] <;> rfl
end
end Og
namespace Og
open PySem PySem.Spec L2
/-! ### what waits in put -/
inductive Tk where
  | it (x : PV)
  | rd (xs : List PV)
/-- finishing what waits (the top first), with what is made, gives v -/
def Fin : List Tk → List PV → PV → Prop
  | [], m, v => m = [v]
  | .it x :: r, m, v => Fin r (m ++ [x]) v
  | .rd xs :: r, m, v => ∃ m0, m = m0 ++ xs.reverse ∧ Fin r (m0 ++ [.l xs]) v
theorem Fin.its {r : List Tk} {v : PV} : ∀ {ys m : List PV}, Fin r (m ++ ys) v → Fin (ys.map .it ++ r) m v
  | [], m, h => by rw [List.append_nil] at h; exact h
  | y :: ys, m, h => by
    show Fin (ys.map .it ++ r) (m ++ [y]) v
    exact Fin.its (by rw [List.append_assoc]; exact h)
def tkW : Tk → Nat
  | .it x => 2 * psz x
  | .rd _ => 1
def tkG : Tk → Nat
  | .it x => 2 * psz x - 1
  | .rd xs => xs.length
def sumW (l : List Tk) : Nat := (l.map tkW).sum
def sumG (l : List Tk) : Nat := (l.map tkG).sum
theorem psz_pos (x : PV) : 0 < psz x := by cases x <;> simp [psz] <;> omega
theorem pszs_len : ∀ xs : List PV, xs.length ≤ pszs xs
  | [] => by simp [pszs]
  | x :: xs => by have := pszs_len xs; have := psz_pos x; simp only [pszs, List.length_cons]; omega
theorem sum_its : ∀ xs : List PV, ((xs.map Tk.it).map tkW).sum = 2 * pszs xs ∧ ((xs.map Tk.it).map tkG).sum + xs.length = 2 * pszs xs
  | [] => by simp [pszs]
  | x :: xs => by
    have h := sum_its xs
    have hp := psz_pos x
    simp only [List.map_cons, List.sum_cons, h.1, pszs, tkW, tkG, List.length_cons]
    omega
theorem pszs_app : ∀ xs ys : List PV, pszs (xs ++ ys) = pszs xs + pszs ys
  | [], ys => by simp [pszs]
  | x :: xs, ys => by simp only [List.cons_append, pszs, pszs_app xs ys]; omega
theorem pszs_rev : ∀ xs : List PV, pszs xs.reverse = pszs xs
  | [] => rfl
  | x :: xs => by rw [List.reverse_cons, pszs_app, pszs_rev xs]; simp only [pszs]; omega
theorem iteP {c : Bool} {A B : Prop} (h : c = true) (g : A) : if c = true then A else B := by rw [if_pos h]; exact g
theorem iteN {c : Bool} {A B : Prop} (h : c = false) (g : B) : if c = true then A else B := by rw [h]; exact iteF g
theorem popR {α : Type} (l : List α) (v : α) : (l ++ [v])[(l ++ [v]).length - 1]? = some v ∧ (l ++ [v]).dropLast = l := by simp
section
variable {P : Program} {w : World} {K : PySem.W.Frag} {mg : Str → Option Value} {base : Heap} {CS : Addr}
/-- what stands for it -/
def TkB (K : PySem.W.Frag) (H : Hp) (b : Bool) (u : V) : Tk → Prop
  | .it x => b = false ∧ Rep K H x u
  | .rd xs => b = true ∧ Rep K H (.l xs) u
def TkAt (K : PySem.W.Frag) (H : Hp) (t : Tk) (v : V) : Prop := ∃ q u b, v = .ref q ∧ H q = some (.tup [u, .bl b]) ∧ TkB K H b u t
theorem TkAt.keep {H H' : Hp} (f : ∀ b o, H b = some o → Fix o → H' b = some o) {t : Tk} {v : V} (h : TkAt K H t v) : TkAt K H' t v := by
  obtain ⟨q, u, b, rfl, h1, h2⟩ := h
  refine ⟨q, u, b, rfl, f _ _ h1 trivial, ?_⟩
  cases t with
  | it x => exact ⟨h2.1, Rep.keep f h2.2⟩
  | rd xs => exact ⟨h2.1, Rep.keep f h2.2⟩
theorem paired_keep {α β : Type} {R R' : α → β → Prop} {l : List α} {m : List β} (h : Paired R l m) (f : ∀ a b, R a b → R' a b) : Paired R' l m := Paired.mapP h f
theorem paired_app {α β : Type} {R : α → β → Prop} {l l2 : List α} {m m2 : List β} (h : Paired R l m) (g : Paired R l2 m2) : Paired R (l ++ l2) (m ++ m2) := by
  induction h with
  | nil => exact g
  | cons h _ ih => exact .cons h ih
theorem paired_rev {α β : Type} {R : α → β → Prop} {l : List α} {m : List β} (h : Paired R l m) : Paired R l.reverse m.reverse := by
  induction h with
  | nil => exact .nil
  | cons h _ ih => rw [List.reverse_cons, List.reverse_cons]; exact paired_app ih (.cons h .nil)
abbrev sPut : Stmt := inClass (top 23) 6
abbrev nPut : List Str := ["self", "value", "waiting", "made", "one", "is_ready", "item", "found", "items", "_"]
def spPut (w : World) (K : PySem.W.Frag) (C : Addr) : Sp := fun vs H Q _ => ∃ (a : SAd) (st : Sto) (x : PV) (v : V), vs = [.ref a.s, v] ∧ StoreAt w C H a st ∧ Rep K H x v ∧ st.length + 2 * psz x ≤ 1000000 ∧
  ∀ H' st' n, StoreAt w C H' a st' → st <+: st' → Den st' n x → st'.length ≤ st.length + 2 * psz x → Frm a.own H H' → Q (vI n) H'
theorem scPut : FnScope nPut ["self", "value"] (defScope sPut) := ⟨rfl, rfl, rfl, by decide +kernel, rfl, by decide +kernel, by decide +kernel⟩
theorem ok_put (B : Blt mg) (N : Nums mg) (T : SCl K CS) (c_number_of : C8.Met P w K mg base 1 CS "number_of" (spNumberOf w CS) []) (g : MDef K CS "put" "Store.put" sPut []) : C8.Met P w K mg base 2 CS "put" (spPut w K CS) [] := by
  refine met_of g scPut (fun _ _ _ _ _ _ us hl => match us, hl with | [_, _], _ => rfl) (fun vs H Q E h => ?_) (fun f cdv A outer s H vs Q E hr h => ?_)
  · obtain ⟨a, st, n, ns, rfl, _⟩ := h; rfl
  obtain ⟨a, st, x, v, rfl, SA, hR, hl, k⟩ := h
  have nd := scPut.nd
  refine ⟨_, (pss_cons (ps_set (i := 2) nd rfl (.inl rfl) (pe_lst (pa_cons (pe_tup (pa_cons (pv 1) (pa_cons pe_bl pa_nil))) pa_nil)))
    (pss_cons (ps_set (i := 3) nd rfl (.inr rfl) (pe_lst pa_nil))
    (pss_cons (ps_while PassesOwn.never (pt_cmpR op_gt (pe_callB call_len_seq (by rfl) B.len boot_len (pa_cons (pv 2) pa_nil)) pe_int (nomark _)) (pss_cons (ps_asg (pe_bm0 PySem.F.plainAttrs_list PySem.F.slot_list_pop PySem.F.type_list_pop mt_pop (pv 2)) (pg_tup rfl (pgs_cons (pg_name (i := 4) nd rfl (.inl rfl)) (pgs_cons (pg_name (i := 5) nd rfl (.inl rfl)) pgs_nil))))
    (pss_one (ps_if (pt_val (pe_callB call_isi (by rfl) B.isinstance (by decide +kernel) (pa_cons (pv 4) (pa_cons (pe_bltn (v := .ty "str") (by rfl) B.str (by decide +kernel) rfl) pa_nil)))) (pss_one (ps_expr (pe_bm PySem.F.plainAttrs_list PySem.F.slot_list_append PySem.F.type_list_append mt_append (pv 3) (pa_cons (C8.pe_mt c_number_of hr (by decide) (pv 0) (pa_cons (pv 4) pa_nil)) pa_nil)))) (pss_one (ps_if (pt_not (pt_val (pv 5))) (pss_cons (ps_expr (pe_bm PySem.F.plainAttrs_list PySem.F.slot_list_append PySem.F.type_list_append mt_append (pv 2) (pa_cons (pe_tup (pa_cons (pv 4) (pa_cons pe_bl pa_nil))) pa_nil)))
    (pss_one (ps_expr (pe_bm PySem.F.plainAttrs_list PySem.F.slot_list_extend PySem.F.type_list_extend mt_extend (pv 2) (pa_cons (pe_lc (own := [("item", 6)]) (g := gName 6) (tt := tYes) rfl nd (pi_tup (pv 4)) (blkOk_by (N := nPut) (sc := defScope sPut) (by decide +kernel)) (fun _ _ _ _ _ => pg_name (i := 6) nd rfl (Or.inl rfl)) (fun _ _ _ _ _ => pts_nil) (fun _ _ _ _ _ => pe_tup (pa_cons (pv 6) (pa_cons pe_bl pa_nil)))) pa_nil))))) (pss_cons (ps_set (i := 7) nd rfl (.inl rfl) (C8.pe_gc (v := .int 0) rfl (cstI N.empty)))
    (pss_cons (ps_setLc (i := 8) (own := [("_", 9)]) (g := gName 9) (tt := tYes) (te := tBM0 K "list" rPop (tVar 3)) rfl nd rfl rfl (sw_true rfl rfl rfl (by decide +kernel)) (pi_tup (pv 4)) (blkOk_by (N := nPut) (sc := defScope sPut) (by decide +kernel)) (fun _ _ _ _ _ => pg_name (i := 9) nd rfl (Or.inl rfl)) (fun _ _ _ _ _ => pts_nil) (fun _ _ _ _ _ => pe_bm0 PySem.F.plainAttrs_list PySem.F.slot_list_pop PySem.F.type_list_pop mt_pop (pv 3)))
    (pss_cons (ps_for PassesOwn.never rfl (pi_reversed rfl B.reversed (pa_cons (pv 8) pa_nil)) (pg_name (i := 6) nd rfl (.inl rfl)) (pss_one (ps_set (i := 7) nd rfl (.inl rfl) (C8.pe_mt c_number_of hr (by decide) (pv 0) (pa_cons (pe_tup (pa_cons (pv 6) (pa_cons (pv 7) pa_nil))) pa_nil)))))
    (pss_one (ps_expr (pe_bm PySem.F.plainAttrs_list PySem.F.slot_list_append PySem.F.type_list_append mt_append (pv 3) (pa_cons (pv 7) pa_nil)))))))))))))
    (pss_one (ps_ret (pe_ix ix_list (pv 3) pe_int (fun _ _ => rfl))))))), ?_⟩
  refine ⟨_, rfl, (by show 2 ≤ sizeLine; decide), fun t0 ht0 => ⟨(by show 1 ≤ sizeLine; decide), fun lw hlw => ⟨Nat.zero_le _, fun lm hlm => ?_⟩⟩⟩
  have s1 : Same H (upd H t0 (.tup [v, .bl false])) := Same.new ht0
  have s2 : Same H (upd (upd H t0 (.tup [v, .bl false])) lw (.lst [.ref t0])) := s1.trans (Same.new hlw)
  have s3 : Same H (upd (upd (upd H t0 (.tup [v, .bl false])) lw (.lst [.ref t0])) lm (.lst [])) := s2.trans (Same.new hlm)
  have lw0 : H lw = none := Same.free s1 hlw
  have lm0 : H lm = none := Same.free s2 hlm
  have nwm : lw ≠ lm := ne_of_none upd_same hlm
  have T0 : TkAt K (upd (upd (upd H t0 (.tup [v, .bl false])) lw (.lst [.ref t0])) lm (.lst [])) (.it x) (.ref t0) :=
    ⟨t0, v, false, rfl, by rw [upd_ne (ne_of_none ((Same.new hlw) _ _ upd_same) hlm), upd_ne (ne_of_none upd_same hlw), upd_same], rfl, Rep.keep (fun b o h _ => s3 b o h) hR⟩
  refine ⟨fun m σ H' => ∃ (tks : List Tk) (vr : List V) (mv : List PV) (mn : List Nat) (st' : Sto) (o4 o5 o6 o7 o8 o9 : Option V),
      σ = [some (.ref a.s), some v, some (.ref lw), some (.ref lm), o4, o5, o6, o7, o8, o9] ∧ m = sumW tks ∧ StoreAt w CS H' a st' ∧ st <+: st' ∧ st'.length + sumG tks ≤ st.length + 2 * psz x ∧ mv.length + sumW tks ≤ 2 * psz x ∧
      Dens st' mn mv ∧ Fin tks mv x ∧ H' lw = some (.lst vr.reverse) ∧ Paired (TkAt K H') tks vr ∧ H' lm = some (.lst (mn.map vI)) ∧ Frm a.own H H',
    ⟨_, [.it x], [.ref t0], [], [], st, none, none, none, none, none, none, rfl, rfl, SA.same s3, List.prefix_refl _, by simp only [sumG, tkG, List.map_cons, List.map_nil, List.sum_cons, List.sum_nil]; omega, by simp [sumW, tkW], .nil, rfl, by rw [upd_ne nwm, upd_same] <;> rfl, .cons T0 .nil, upd_same, Frm.of_same s3⟩, ?_⟩
  rintro m σ H' ⟨tks, vr, mv, mn, st', o4, o5, o6, o7, o8, o9, rfl, rfl, SA', pre, hG, hW, hD, hF, hw, hP, hm, fr⟩
  refine ⟨_, rfl, lw, _, rfl, .inl (SqL.of hw), _, _, rfl, rfl, _, rfl, ?_⟩
  rw [List.length_reverse]
  cases tks with
  | nil =>
    cases hP
    refine iteF ?_
    cases (show mv = [x] from hF)
    cases hD with
    | cons d1 d2 =>
      cases d2
      refine ⟨_, rfl, lm, _, 0, _, rfl, rfl, SqL.of hm, rfl, ?_⟩
      exact k H' st' _ SA' pre d1 (by simp [sumG] at hG; omega) fr
  | cons t r =>
    cases hP with
    | @cons _ vt _ vr' ht hr' =>
      obtain ⟨q, u, b, rfl, hq, hb⟩ := ht
      have own_lw : lw ∉ a.own := fun z => by
        obtain ⟨o, ho, _⟩ := SA.some lw (List.mem_cons_of_mem _ z)
        rw [lw0] at ho; cases ho
      have own_lm : lm ∉ a.own := fun z => by
        obtain ⟨o, ho, _⟩ := SA.some lm (List.mem_cons_of_mem _ z)
        rw [lm0] at ho; cases ho
      have sA_lw : a.s ≠ lw := fun z => by
        obtain ⟨dx, hi⟩ := SA.ins
        rw [z, lw0] at hi; cases hi
      have sA_lm : a.s ≠ lm := fun z => by
        obtain ⟨dx, hi⟩ := SA.ins
        rw [z, lm0] at hi; cases hi
      have not_S : ∀ y : Addr, H y = none → a.s ∉ [y] ∧ a.le ∉ [y] ∧ a.nd ∉ [y] ∧ a.ls ∉ [y] ∧ a.ld ∉ [y] := fun y hy => by
        have z : ∀ b ∈ a.s :: a.own, b ∉ [y] := fun b hb e => by
          obtain ⟨o, ho, _⟩ := SA.some b hb
          rw [List.mem_singleton.mp e, hy] at ho; cases ho
        exact ⟨z _ (by simp), z _ (by simp [SAd.own]), z _ (by simp [SAd.own]), z _ (by simp [SAd.own]), z _ (by simp [SAd.own])⟩
      refine iteP (decide_eq_true (by show (0 : Int) < (((_ :: vr').length : Nat) : Int); rw [List.length_cons]; omega)) ⟨fun σ2 H2 => ∃ (tks : List Tk) (vr : List V) (mv : List PV) (mn : List Nat) (st' : Sto) (o4 o5 o6 o7 o8 o9 : Option V),
        σ2 = [some (.ref a.s), some v, some (.ref lw), some (.ref lm), o4, o5, o6, o7, o8, o9] ∧ sumW tks < sumW (t :: r) ∧ StoreAt w CS H2 a st' ∧ st <+: st' ∧ st'.length + sumG tks ≤ st.length + 2 * psz x ∧ mv.length + sumW tks ≤ 2 * psz x ∧
        Dens st' mn mv ∧ Fin tks mv x ∧ H2 lw = some (.lst vr.reverse) ∧ Paired (TkAt K H2) tks vr ∧ H2 lm = some (.lst (mn.map vI)) ∧ Frm a.own H H2, ?_, ?_⟩
      · rintro σ2 H2 ⟨tks, vr, mv, mn, st2, p4, p5, p6, p7, p8, p9, e1, e2, rest⟩
        exact ⟨_, e2, tks, vr, mv, mn, st2, p4, p5, p6, p7, p8, p9, e1, rfl, rest⟩
      -- one, is_ready = waiting.pop()
      have hw' : H' lw = some (.lst (vr'.reverse ++ [.ref q])) := by rw [hw, List.reverse_cons]
      refine ⟨_, rfl, .inl ⟨rfl, _, SqL.of hw'⟩, lw, _, _, rfl, rfl, hw', (popR _ _).1, ?_⟩
      rw [(popR _ _).2]
      have f1 : Frm a.own H (upd H' lw (.lst vr'.reverse)) := fr.updN lw0
      have f1' : Frm [lw] H' (upd H' lw (.lst vr'.reverse)) := Frm.upd (by simp) hw (fun z => z)
      have SA1 : StoreAt w CS (upd H' lw (.lst vr'.reverse)) a st' := SA'.keep f1' (not_S lw lw0)
      have m1 : upd H' lw (.lst vr'.reverse) lm = some (.lst (mn.map vI)) := (upd_ne nwm.symm).trans hm
      have w1 : upd H' lw (.lst vr'.reverse) lw = some (.lst vr'.reverse) := upd_same
      have q1 := f1'.fix _ _ hq trivial
      have P1 : Paired (TkAt K (upd H' lw (.lst vr'.reverse))) r vr' := paired_keep hr' fun _ _ z => z.keep f1'.fix
      have hb1 : TkB K (upd H' lw (.lst vr'.reverse)) b u t := by
        cases t with
        | it x => exact ⟨hb.1, Rep.keep f1'.fix hb.2⟩
        | rd xs => exact ⟨hb.1, Rep.keep f1'.fix hb.2⟩
      clear hb hr' hw hw' hm
      generalize upd H' lw (.lst vr'.reverse) = H1 at f1 f1' SA1 m1 w1 q1 P1 hb1 ⊢
      refine ⟨q, _, rfl, SqT.of q1, rfl, _, _, rfl, _, _, rfl, rfl, ?_⟩
      have hW' : mv.length + (tkW t + sumW r) ≤ 2 * psz x := by simpa [sumW] using hW
      have hG' : st'.length + (tkG t + sumG r) ≤ st.length + 2 * psz x := by simpa [sumG] using hG
      have small1 : ∀ {n : Nat}, n ≤ 2 * psz x → n < sizeLine := fun h => small7 (by omega)
      obtain ⟨dx, hi1⟩ := SA1.ins
      cases t with
      | it y =>
        obtain ⟨rfl, hy⟩ := hb1
        obtain ⟨tt, hk1, hk2⟩ := isi_dat hy
        refine ⟨_, rfl, _, _, tt, _, _, rfl, .ty _, hk1, hk2, _, rfl, ?_⟩
        cases y with
        | w y =>
          cases (show u = .str y from hy)
          refine iteT ?_
          -- made.append(self.number_of(one))
          refine ⟨_, rfl, .inl ⟨rfl, _, SqL.of m1⟩, _, rfl, a.s, dx, _, rfl, hi1, rfl, _, rfl, ?_⟩
          refine ⟨a, st', .wd y, .str y, rfl, SA1, rfl, (fun i j e => nomatch e), by omega, fun H2 S2 F2 => ?_⟩
          have m2 := F2.old lm _ m1 own_lm
          refine ⟨lm, _, _, rfl, rfl, m2, (by rw [List.length_map, hD.length]; exact small1 (by omega)), ?_⟩
          obtain ⟨g1, g2, g3, g4⟩ := numOf_spec SA'.wf (e := .wd y) (fun z => nomatch z) (fun i j e => nomatch e)
          have f2 : Frm [lm] H2 (upd H2 lm (.lst (mn.map vI ++ [vI (numOf st' (.wd y)).2]))) := Frm.upd (by simp) m2 (fun z => z)
          have wfix : ∀ b o, H1 b = some o → Fix o → upd H2 lm (.lst (mn.map vI ++ [vI (numOf st' (.wd y)).2])) b = some o := fun b o h hf => f2.fix _ _ (F2.fix _ _ h hf) hf
          simp only [tkW, tkG, psz] at hW' hG'
          refine ⟨r, vr', mv ++ [.w y], mn ++ [(numOf st' (.wd y)).2], (numOf st' (.wd y)).1, _, _, _, _, _, _, rfl, (by simp [sumW, tkW, psz]), S2.keep f2 (not_S lm lm0), pre.trans g2, by omega, (by rw [List.length_append, List.length_singleton]; omega),
            (hD.pre g2).append (.cons (.wd g3) .nil), (show Fin r (mv ++ [PV.w y]) x from hF), ?_, paired_keep P1 (fun _ _ z => z.keep wfix), (by rw [upd_same, List.map_append] <;> rfl), ?_⟩
          · rw [upd_ne nwm]
            exact F2.old lw _ w1 own_lw
          · exact (f1.trans F2).updN lm0
        | l xs =>
          refine iteF ⟨_, rfl, _, rfl, iteT ?_⟩
          -- waiting.append((one, True))
          refine ⟨_, rfl, .inl ⟨rfl, _, SqL.of w1⟩, _, rfl, (by show 2 ≤ sizeLine; decide), fun p hp => ?_⟩
          have sp : Same H1 (upd H1 p (.tup [u, .bl true])) := Same.new hp
          have w2 := sp _ _ w1
          have hlv : vr'.length ≤ 2 * psz x := by
            have : r.length = vr'.length := P1.length
            have : ∀ l : List Tk, l.length ≤ sumW l := fun l => by
              induction l with
              | nil => simp
              | cons t l ih => have : 0 < tkW t := by cases t <;> simp [tkW]; exact psz_pos _
                               simp only [sumW, List.map_cons, List.sum_cons, List.length_cons] at *; omega
            have := this r
            omega
          refine ⟨lw, _, _, rfl, rfl, w2, (by rw [List.length_reverse]; exact small1 hlv), ?_⟩
          have rd1 : TkAt K (upd H1 p (.tup [u, .bl true])) (.rd xs) (.ref p) := ⟨p, u, true, rfl, upd_same, rfl, Rep.keep (fun b o h _ => sp b o h) hy⟩
          have f2 : Frm [lw] H1 (upd (upd H1 p (.tup [u, .bl true])) lw (.lst (vr'.reverse ++ [.ref p]))) := (Frm.of_same sp).trans (Frm.upd (by simp) w2 (fun z => z))
          have f2' : Frm [lw] (upd H1 p (.tup [u, .bl true])) (upd (upd H1 p (.tup [u, .bl true])) lw (.lst (vr'.reverse ++ [.ref p]))) := Frm.upd (by simp) w2 (fun z => z)
          have rd2 := rd1.keep f2'.fix
          have w3 : upd (upd H1 p (.tup [u, .bl true])) lw (.lst (vr'.reverse ++ [.ref p])) lw = some (.lst (vr'.reverse ++ [.ref p])) := upd_same
          have f3 : Frm a.own H (upd (upd H1 p (.tup [u, .bl true])) lw (.lst (vr'.reverse ++ [.ref p]))) := (f1.trans (Frm.of_same sp)).updN lw0
          have hy2 := Rep.keep f2.fix hy
          have m3 := f2.old lm _ m1 (by simpa using nwm.symm)
          clear f2' rd1 w2 sp
          generalize upd (upd H1 p (.tup [u, .bl true])) lw (.lst (vr'.reverse ++ [.ref p])) = H2 at f2 f3 rd2 w3 hy2 m3 ⊢
          -- waiting.extend([(item, False) for item in one])
          obtain ⟨ub, us, rfl, hq2, hus⟩ := hy2
          refine ⟨_, rfl, .inl ⟨rfl, _, SqL.of w3⟩, _, rfl, ub, rfl, ⟨_, hq2⟩, fun D hD0 => ?_⟩
          have hlx : xs.length ≤ psz x := by
            have := pszs_len xs
            simp only [tkW, psz] at hW'
            omega
          have hlu : us.length = xs.length := hus.length
          refine lc_tup (K := K) (a := ub) (xs := us) (fun i H3 => Same H2 H3 ∧ ∃ ws, H3 D = some (.lst ws) ∧ Paired (TkAt K H3) ((xs.take i).map Tk.it) ws) ⟨Same.new hD0, [], upd_same, .nil⟩ (fun i H3 _ ⟨h1, _⟩ => SqT.keep hq2 (fun b o h _ => h1 b o h)) ?_ ?_
          · rintro i z H3 hz ⟨h1, ws, h2, h3⟩
            obtain ⟨y, hy1, hy2⟩ := hus.get' hz
            refine ⟨rfl, ?_⟩
            dsimp only [tYes]
            rw [if_pos rfl]
            refine ⟨_, rfl, (by show 2 ≤ sizeLine; decide), fun p2 hp2 => ?_⟩
            have sp2 : Same H3 (upd H3 p2 (.tup [z, .bl false])) := Same.new hp2
            have hi' : i < xs.length := by rw [← hlu]; exact (List.getElem?_eq_some_iff.mp hz).1
            have hws : ws.length = i := by
              have := h3.length
              simp at this
              omega
            refine ⟨ws, sp2 _ _ h2, small1 (by omega), fun b o hb => ?_, ws ++ [.ref p2], upd_same, ?_⟩
            · rw [upd_ne (ne_of_none hb hD0)]
              exact sp2 _ _ (h1 _ _ hb)
            · have fx : ∀ b o, H3 b = some o → Fix o → upd (upd H3 p2 (.tup [z, .bl false])) D (.lst (ws ++ [.ref p2])) b = some o := fun b o hb hf => by
                rw [upd_ne (fun e => by rw [e, h2] at hb; cases hb; exact hf)]
                exact sp2 _ _ hb
              rw [List.take_add_one, hy1, List.map_append]
              refine paired_app (paired_keep h3 fun _ _ z => z.keep fx) (.cons ⟨p2, z, false, rfl, ?_, rfl, ?_⟩ .nil)
              · rw [upd_ne (ne_of upd_same (sp2 _ _ h2) (by intro e; cases e)), upd_same]
              · exact Rep.keep (fun b o hb hf => fx b o (h1 _ _ hb) hf) hy2
          · rintro H3 ⟨h1, ws, h2, h3⟩
            rw [hlu, List.take_length] at h3
            have hws : ws.length = xs.length := by have := h3.length; simp at this; omega
            refine ⟨lw, D, _, _, rfl, rfl, h1 _ _ w3, h2, (by rw [List.length_append, List.length_reverse, hws]; exact Nat.le_of_lt (small7 (by simp; omega))), ?_⟩
            have f4 : Frm [lw] H3 (upd H3 lw (.lst ((vr'.reverse ++ [.ref p]) ++ ws))) := Frm.upd (by simp) (h1 _ _ w3) (fun z => z)
            have fx : ∀ b o, H1 b = some o → Fix o → upd H3 lw (.lst ((vr'.reverse ++ [.ref p]) ++ ws)) b = some o := fun b o hb hf => f4.fix _ _ (h1 _ _ (f2.fix _ _ hb hf)) hf
            have S3 : StoreAt w CS H3 a st' := (SA1.keep f2 (not_S lw lw0)).same h1
            have sm := sum_its xs.reverse
            rw [pszs_rev, List.length_reverse] at sm
            have hxl := pszs_len xs
            simp only [tkW, tkG, psz] at hW' hG'
            refine ⟨xs.reverse.map Tk.it ++ .rd xs :: r, ws.reverse ++ .ref p :: vr', mv, mn, st', _, _, _, _, _, _, rfl, ?_, S3.keep f4 (not_S lw lw0), pre, ?_, ?_, hD, Fin.its ⟨mv, rfl, hF⟩, ?_, ?_, ?_, ?_⟩
            · simp only [sumW, List.map_append, List.sum_append, List.map_cons, List.sum_cons, sm.1, tkW, psz]
              omega
            · simp only [sumG, List.map_append, List.sum_append, List.map_cons, List.sum_cons, tkG]
              simp only [sumG] at hG'
              have := sm.2
              omega
            · simp only [sumW, List.map_append, List.sum_append, List.map_cons, List.sum_cons, sm.1, tkW]
              simp only [sumW] at hW'
              omega
            · rw [upd_same]
              simp
            · have p1 := paired_rev h3
              rw [← List.map_reverse] at p1
              exact paired_app (paired_keep p1 fun _ _ z => z.keep f4.fix) (.cons (rd2.keep fun b o hb hf => f4.fix _ _ (h1 _ _ hb) hf) (paired_keep P1 fun _ _ z => z.keep fx))
            · rw [upd_ne nwm.symm]
              exact h1 _ _ m3
            · exact (f3.trans (Frm.of_same h1)).updN lw0
      | rd xs =>
        obtain ⟨rfl, hy⟩ := hb1
        obtain ⟨tt, hk1, hk2⟩ := isi_dat hy
        refine ⟨_, rfl, _, _, tt, _, _, rfl, .ty _, hk1, hk2, _, rfl, iteF ⟨_, rfl, _, rfl, iteF ?_⟩⟩
        -- found = EMPTY; items = [made.pop() for _ in one]
        obtain ⟨m0, em, hF2⟩ := (show ∃ m0, mv = m0 ++ xs.reverse ∧ Fin r (m0 ++ [.l xs]) x from hF)
        subst em
        obtain ⟨n0, nr, rfl, d0, dr⟩ := hD.split
        obtain ⟨ns, rfl⟩ : ∃ ns : List Nat, nr = ns.reverse := ⟨nr.reverse, by simp⟩
        have dn : Dens st' ns xs := by have := dr.reverse; simpa using this
        have hln : ns.length = xs.length := dn.length
        obtain ⟨ub, us, rfl, hq2, hus⟩ := hy
        have hlu : us.length = xs.length := hus.length
        have hD2 : ∀ D : Addr, H1 D = none → D ≠ lm := fun D h e => by rw [e, m1] at h; cases h
        refine ⟨_, rfl, ub, rfl, ⟨_, hq2⟩, fun D hD0 => ?_⟩
        have nDm := hD2 D hD0
        have ownD : D ∉ a.own := fun z => by
          obtain ⟨o, ho, _⟩ := SA1.some D (List.mem_cons_of_mem _ z)
          rw [hD0] at ho; cases ho
        refine lc_tup (K := K) (a := ub) (xs := us) (fun i H3 => (∀ b o, H1 b = some o → b ≠ lm → H3 b = some o) ∧ H3 lm = some (.lst ((n0 ++ (ns.drop i).reverse).map vI)) ∧ H3 D = some (.lst ((ns.take i).map vI)))
          ⟨fun b o hb _ => by rw [upd_ne (ne_of_none hb hD0)]; exact hb, by rw [upd_ne nDm.symm]; exact m1, upd_same⟩ (fun i H3 _ ⟨h1, _⟩ => SqT.keep hq2 (fun b o hb hf => h1 b o hb (fun e => by rw [e, m1] at hb; cases hb; exact hf))) ?_ ?_
        · rintro i z H3 hz ⟨h1, h2, h3⟩
          have hi' : i < ns.length := by rw [hln, ← hlu]; exact (List.getElem?_eq_some_iff.mp hz).1
          have h2' : H3 lm = some (.lst ((n0 ++ (ns.drop (i + 1)).reverse).map vI ++ [vI ns[i]])) := by
            rw [h2, List.drop_eq_getElem_cons hi', List.reverse_cons, ← List.append_assoc, List.map_append] <;> rfl
          refine ⟨rfl, ?_⟩
          dsimp only [tYes]
          rw [if_pos rfl]
          refine ⟨_, rfl, .inl ⟨rfl, _, SqL.of h2'⟩, lm, _, _, rfl, rfl, h2', (popR _ _).1, ?_⟩
          rw [(popR _ _).2]
          refine ⟨_, (upd_ne nDm).trans h3, (by rw [List.length_map, List.length_take]; exact small1 (by have := pszs_len xs; simp only [List.length_append, List.length_reverse] at hW'; omega)), fun b o hb hne => ?_, ?_, ?_⟩
          · rw [upd_ne (ne_of_none hb hD0), upd_ne hne]
            exact h1 _ _ hb hne
          · rw [upd_ne nDm.symm, upd_same]
          · rw [upd_same, List.take_add_one, List.getElem?_eq_getElem hi', List.map_append] <;> rfl
        · rintro H3 ⟨h1, h2, h3⟩
          rw [hlu, ← hln, List.take_length] at h3
          rw [hlu, ← hln, List.drop_length, List.reverse_nil, List.append_nil] at h2
          have f3 : Frm [lm] H1 H3 := ⟨fun b o hb hn => h1 b o hb (by simpa using hn), fun b o hb hf => h1 b o hb (fun e => by rw [e, m1] at hb; cases hb; exact hf)⟩
          have S3 : StoreAt w CS H3 a st' := SA1.keep f3 (not_S lm lm0)
          have hlx : xs.length ≤ 2 * psz x := by simp only [List.length_append, List.length_reverse] at hW'; omega
          -- for item in reversed(items): found = self.number_of((item, found))
          refine ⟨_, rfl, D, _, rfl, SqL.of h3, for_rev (K := K) (a := D) (xs := ns.map vI) (fun i σ H4 => ∃ (fn : Nat) (st4 : Sto) (o6 : Option V), σ = [some (.ref a.s), some v, some (.ref lw), some (.ref lm), some (.ref ub), some (.bl true), o6, some (vI fn), some (.ref D), o9] ∧
            StoreAt w CS H4 a st4 ∧ st' <+: st4 ∧ st4.length ≤ st'.length + i ∧ Den st4 fn (.l (xs.drop (xs.length - i))) ∧ Frm a.own H3 H4) ⟨0, st', o6, rfl, S3, List.prefix_refl _, by omega, by rw [Nat.sub_zero, List.drop_length]; exact den0 S3.wf, Frm.refl⟩
            (fun i σ H4 _ ⟨_, _, _, _, _, _, _, _, fr4⟩ => SqL.of (fr4.old _ _ h3 ownD)) ?_ ?_⟩
          · rintro i z σ H4 hi hz ⟨fn, st4, o6', rfl, S4, p4, l4, d4, fr4⟩
            rw [List.length_map, hln] at hi hz
            have hj : xs.length - 1 - i < ns.length := by omega
            have hzn : z = vI (ns[xs.length - 1 - i]) := by
              rw [List.getElem?_map, List.getElem?_eq_getElem hj] at hz
              exact (Option.some.inj hz).symm
            subst hzn
            have getd : ∀ {ns : List Nat} {xs : List PV}, Dens st' ns xs → ∀ (j : Nat) (h1 : j < ns.length) (h2 : j < xs.length), Den st' ns[j] xs[j] := by
              intro ns xs d
              induction d with
              | nil => intro j h1; simp at h1
              | cons hh _ ih =>
                intro j h1 h2
                cases j with
                | zero => exact hh
                | succ j => exact ih j (by simpa using h1) (by simpa using h2)
            have dz := getd dn (xs.length - 1 - i) hj (by omega)
            obtain ⟨dx4, hi4⟩ := S4.ins
            refine ⟨_, rfl, a.s, dx4, _, rfl, hi4, rfl, _, rfl, _, rfl, (by show 2 ≤ sizeLine; decide), fun p hp => ?_⟩
            refine ⟨a, st4, .pr (ns[xs.length - 1 - i]) fn, .ref p, rfl, S4.same (Same.new hp), ⟨p, rfl, upd_same⟩, (fun i' j' e => by cases e; exact ⟨(dz.pre p4).lt, d4.isL⟩), by omega, fun H5 S5 F5 => ?_⟩
            obtain ⟨g1, g2, g3, g4⟩ := numOf_spec S4.wf (e := .pr (ns[xs.length - 1 - i]) fn) (fun z => nomatch z) (fun i' j' e => by cases e; exact ⟨(dz.pre p4).lt, d4.isL⟩)
            refine ⟨_, _, _, rfl, S5, p4.trans g2, by omega, ?_, fr4.trans ((Frm.new hp).trans F5)⟩
            have e1 : xs.drop (xs.length - (i + 1)) = xs[xs.length - 1 - i] :: xs.drop (xs.length - i) := by
              have e2 : xs.length - (i + 1) = xs.length - 1 - i := by omega
              have e3 : xs.length - 1 - i + 1 = xs.length - i := by omega
              rw [e2, List.drop_eq_getElem_cons (by omega), e3]
            rw [e1]
            exact .pr g3 ((dz.pre p4).pre g2) (d4.pre g2)
          · rintro σ H4 ⟨fn, st4, o6', rfl, S4, p4, l4, d4, fr4⟩
            rw [List.length_map, hln] at l4 d4
            rw [Nat.sub_self, List.drop_zero] at d4
            have m4 := fr4.old _ _ h2 own_lm
            -- made.append(found)
            refine ⟨_, rfl, .inl ⟨rfl, _, SqL.of m4⟩, _, rfl, lm, _, _, rfl, rfl, m4, (by rw [List.length_map, d0.length]; exact small1 (by simp only [List.length_append] at hW'; omega)), ?_⟩
            have f5 : Frm [lm] H4 (upd H4 lm (.lst (n0.map vI ++ [vI fn]))) := Frm.upd (by simp) m4 (fun z => z)
            have fx : ∀ b o, H1 b = some o → Fix o → upd H4 lm (.lst (n0.map vI ++ [vI fn])) b = some o := fun b o hb hf => f5.fix _ _ (fr4.fix _ _ (f3.fix _ _ hb hf) hf) hf
            simp only [List.length_append, List.length_reverse, tkW] at hW'
            simp only [tkG] at hG'
            refine ⟨r, vr', m0 ++ [.l xs], n0 ++ [fn], st4, _, _, _, _, _, _, rfl, (by simp [sumW, tkW]), S4.keep f5 (not_S lm lm0), pre.trans p4, by omega, (by rw [List.length_append, List.length_singleton]; omega), (d0.pre p4).append (.cons d4 .nil), hF2, ?_, paired_keep P1 (fun _ _ z => z.keep fx), (by rw [upd_same, List.map_append] <;> rfl), ?_⟩
            · rw [upd_ne nwm]
              exact fr4.old _ _ (f3.old _ _ w1 (by simpa using nwm)) own_lw
            · refine Frm.updN ⟨fun b o hb hn => ?_, fun b o hb hf => fr4.fix _ _ (f3.fix _ _ (f1.fix _ _ hb hf) hf) hf⟩ lm0
              exact fr4.old _ _ (f3.old _ _ (f1.old _ _ hb hn) (by simpa using ne_of_none hb lm0)) hn
end
end Og
namespace Og
open PySem PySem.Spec L2
section
variable {P : Program} {w : World} {K : PySem.W.Frag} {mg : Str → Option Value} {base : Heap} {CS : Addr}
abbrev sValueOf : Stmt := inClass (top 23) 8
abbrev nVal : List Str := ["self", "number", "built", "waiting", "one", "items", "missing", "item"]
def spValueOf (w : World) (K : PySem.W.Frag) (C : Addr) : Sp := fun vs H Q _ => ∃ (a : SAd) (st : Sto) (n : Nat) (v : PV), vs = [.ref a.s, vI n] ∧ StoreAt w C H a st ∧ Den st n v ∧ psz v ≤ 1000000 ∧ st.length ≤ 10000000 ∧
  ∀ H' u, Same H H' → Rep K H' v u → Q u H'
theorem Its.fn {st : Sto} {n : Nat} {ns : List Nat} (h : Its st n ns) : ∀ {ms : List Nat}, Its st n ms → ns = ms := by
  induction h with
  | nil h =>
    intro ms g
    cases g with
    | nil g => rfl
    | pr g _ => rw [h] at g; cases g
  | pr h _ ih =>
    intro ms g
    cases g with
    | nil g => rw [h] at g; cases g
    | pr g g2 => rw [h] at g; cases g; rw [ih g2]
theorem reps_of {H : Hp} {st : Sto} {kvs : List (Key × V)} (hR : ∀ (i : Nat) u, valV kvs (Sum.inl (i : Int)) = some u → ∀ y, Den st i y → Rep K H y u) : ∀ {ns : List Nat} {us : List V} {xs : List PV},
    Paired (fun (j : Nat) (u : V) => valV kvs (Sum.inl (j : Int)) = some u) ns us → Dens st ns xs → Reps K H xs us
  | [], _, _, .nil, .nil => rfl
  | _ :: _, _, _, .cons h t, .cons d e => ⟨_, _, rfl, hR _ _ h _ d, reps_of hR t e⟩
theorem Its.list {st : Sto} {n : Nat} {ns : List Nat} (h : Its st n ns) {y : PV} (d : Den st n y) : ∃ xs, y = .l xs ∧ Dens st ns xs := by
  cases y with
  | w x =>
    have := word_at d
    cases h with
    | nil h => rw [h] at this; cases this
    | pr h _ => rw [h] at this; cases this
  | l xs =>
    obtain ⟨ms, h1, h2⟩ := d.its
    rw [← h.fn h1] at h2
    exact ⟨xs, rfl, h2⟩
theorem scValueOf : FnScope nVal ["self", "number"] (defScope sValueOf) := ⟨rfl, rfl, rfl, by decide +kernel, rfl, by decide +kernel, by decide +kernel⟩
theorem ok_value_of (B : Blt mg) (N : Nums mg) (T : SCl K CS) (c_is_word : C8.Met P w K mg base 1 CS "is_word" (spSIsWord w CS) []) (c_items_of : C8.Met P w K mg base 1 CS "items_of" (spItemsOf w CS) []) (g : MDef K CS "value_of" "Store.value_of" sValueOf []) : C8.Met P w K mg base 2 CS "value_of" (spValueOf w K CS) [] := by
  refine met_of g scValueOf (fun _ _ _ _ _ _ us hl => match us, hl with | [_, _], _ => rfl) (fun vs H Q E h => ?_) (fun f cdv A outer s H vs Q E hr h => ?_)
  · obtain ⟨a, st, n, ns, rfl, _⟩ := h; rfl
  obtain ⟨a, st, n, v, rfl, SA, hD, hz, hl, k⟩ := h
  have nd := scValueOf.nd
  have hu := hu_of hr
  refine ⟨_, (pss_cons (ps_set (i := 2) nd rfl (.inr rfl) (pe_disp (pps_cons (C8.pe_gc (v := .int 0) rfl (cstI N.empty)) (pe_tup pa_nil) pps_nil) (by rfl) (by rfl) (fun z => by cases z) (by decide)))
    (pss_cons (ps_set (i := 3) nd rfl (.inl rfl) (pe_lst (pa_cons (pv 1) pa_nil)))
    (pss_cons (ps_while PassesOwn.never (pt_cmpR op_gt (pe_callB call_len_seq (by rfl) B.len boot_len (pa_cons (pv 3) pa_nil)) pe_int (nomark _)) (pss_cons (ps_set (i := 4) nd rfl (.inl rfl) (pe_ix ix_list (pv 3) (pe_un un_neg pe_int) (fun _ _ => rfl)))
    (pss_one (ps_if (pt_cmp (pc_din hu (pv 4) (pv 2))) (pss_one (ps_expr (pe_bm0 PySem.F.plainAttrs_list PySem.F.slot_list_pop PySem.F.type_list_pop mt_pop (pv 3)))) (pss_one (ps_if (pt_val (C8.pe_mt c_is_word hr (by decide) (pv 0) (pa_cons (pv 4) pa_nil))) (pss_one (ps_dput hu (pv 2) (pv 4) (pe_ix ix_list (pe_fld (pv 0) rfl) (pv 4) (fun _ _ => rfl)) rfl)) (pss_cons (ps_set (i := 5) nd rfl (.inl rfl) (C8.pe_mt c_items_of hr (by decide) (pv 0) (pa_cons (pv 4) pa_nil)))
    (pss_cons (ps_setLc (i := 6) (own := [("item", 7)]) (g := gName 7) (tt := tB (tDNotIn (tVar 7) (tVar 2))) (te := tVar 7) rfl nd rfl rfl (sw_true rfl rfl rfl (by decide +kernel)) (pi_list (pv 5)) (blkOk_by (N := nVal) (sc := defScope sValueOf) (by decide +kernel)) (fun _ _ _ _ _ => pg_name (i := 7) nd rfl (Or.inl rfl)) (fun _ _ _ _ _ => pts_one (pt_cmp (pc_dnotin hu (pv 7) (pv 2)))) (fun _ _ _ _ _ => pv 7))
    (pss_cons (ps_if (pt_cmpR op_eq (pe_callB call_len_seq (by rfl) B.len boot_len (pa_cons (pv 6) pa_nil)) pe_int (nomark _)) (pss_one (ps_dput hu (pv 2) (pv 4) (pe_callTy call_tuple_of (by rfl) B.tuple (by decide +kernel) (pa_cons (pe_lc (own := [("item", 7)]) (g := gName 7) (tt := tYes) (te := tDGet (tVar 2) (tVar 7)) rfl nd (pi_list (pv 5)) (blkOk_by (N := nVal) (sc := defScope sValueOf) (by decide +kernel)) (fun _ _ _ _ _ => pg_name (i := 7) nd rfl (Or.inl rfl)) (fun _ _ _ _ _ => pts_nil) (fun _ _ _ _ _ => pe_dget hu (pv 2) (pv 7) (fun _ _ => rfl))) pa_nil)) rfl)) pss_nil)
    (pss_one (ps_expr (pe_bm PySem.F.plainAttrs_list PySem.F.slot_list_extend PySem.F.type_list_extend mt_extend (pv 3) (pa_cons (pv 6) pa_nil)))))))))))))
    (pss_one (ps_ret (pe_dget hu (pv 2) (pv 1) (fun _ _ => rfl))))))), ?_⟩
  refine fun bd hbd => ⟨Nat.zero_le _, fun t ht => ⟨(by rw [upd_ne (ne_of_none upd_same ht), upd_same]), [(Sum.inl 0, .ref t)], rfl, (by show 1 ≤ 15; decide), _, rfl, (by show 1 ≤ sizeLine; decide), fun lw hlw => ?_⟩⟩
  have s1 : Same H (upd H bd (.dK [])) := Same.new hbd
  have s2 : Same H (upd (upd H bd (.dK [])) t (.tup [])) := s1.trans (Same.new ht)
  have t0 : H t = none := Same.free s1 ht
  have s3 : Same H (upd (upd (upd H bd (.dK [])) t (.tup [])) bd (.dK (mergeK [] [(Sum.inl 0, .ref t)]))) := fun b o h => by
    rw [upd_ne (ne_of_none h hbd)]
    exact s2 b o h
  have s4 : Same H (upd (upd (upd (upd H bd (.dK [])) t (.tup [])) bd (.dK (mergeK [] [(Sum.inl 0, .ref t)]))) lw (.lst [vI n])) := s3.trans (Same.new hlw)
  have lw0 : H lw = none := Same.free s3 hlw
  have ntb : t ≠ bd := fun e => by rw [e, upd_same] at ht; cases ht
  have nbl : bd ≠ lw := ne_of_none upd_same hlw
  have ntl : t ≠ lw := ne_of_none (show upd (upd (upd H bd (.dK [])) t (.tup [])) bd (.dK (mergeK [] [(Sum.inl 0, .ref t)])) t = some (.tup []) by rw [upd_ne ntb, upd_same]) hlw
  have ht4 : upd (upd (upd (upd H bd (.dK [])) t (.tup [])) bd (.dK (mergeK [] [(Sum.inl 0, .ref t)]))) lw (.lst [vI n]) t = some (.tup []) := by rw [upd_ne ntl, upd_ne ntb, upd_same]
  have hb4 : upd (upd (upd (upd H bd (.dK [])) t (.tup [])) bd (.dK (mergeK [] [(Sum.inl 0, .ref t)]))) lw (.lst [vI n]) bd = some (.dK [(Sum.inl 0, .ref t)]) := by rw [upd_ne nbl, upd_same] <;> rfl
  have hw4 : upd (upd (upd (upd H bd (.dK [])) t (.tup [])) bd (.dK (mergeK [] [(Sum.inl 0, .ref t)]))) lw (.lst [vI n]) lw = some (.lst [vI n]) := upd_same
  clear s1 s2 s3 ht hlw ntl ntb
  generalize upd (upd (upd (upd H bd (.dK [])) t (.tup [])) bd (.dK (mergeK [] [(Sum.inl 0, .ref t)]))) lw (.lst [vI n]) = H4 at s4 ht4 hb4 hw4 ⊢
  obtain ⟨m0, Be, c0, _, hnB, _⟩ := done_one (L := 1000001) SA.wf v hD [] [0] (by simp; omega) (by simp; omega) (by simp)
  refine ⟨fun m σ H' => ∃ (Wt Bt : List Nat) (kvs : List (Key × V)) (o4 o5 o6 o7 : Option V), σ = [some (.ref a.s), some (vI n), some (.ref bd), some (.ref lw), o4, o5, o6, o7] ∧ ChainV st 1000001 m (Wt, Bt) ([], Be) ∧ Same H H' ∧ H' lw = some (.lst (Wt.map vI)) ∧
      H' bd = some (.dK kvs) ∧ kvs.map (·.1) = Bt.map (fun (i : Nat) => (Sum.inl (i : Int) : Key)) ∧ ∀ (i : Nat) u, valV kvs (Sum.inl (i : Int)) = some u → ∀ y, Den st i y → Rep K H' y u,
    ⟨m0, [n], [0], _, none, none, none, none, rfl, c0, s4, hw4, hb4, rfl, fun i u hu y hy => ?_⟩, ?_⟩
  · by_cases hi : (0 : Int) = i
    · have e : i = 0 := by omega
      subst e
      have e2 := hy.fn (den0 SA.wf)
      subst e2
      rw [valV_pos (by rfl)] at hu
      cases hu
      exact ⟨t, [], rfl, SqT.of ht4, rfl⟩
    · rw [valV_neg (fun q => hi (Sum.inl.inj q))] at hu
      cases hu
  clear hw4 hb4 ht4 s4 H4
  rintro m σ H' ⟨Wt, Bt, kvs, o4, o5, o6, o7, rfl, hc, hS, hw, hb, hk, hR⟩
  have hin : ∀ i : Nat, (valV kvs (Sum.inl (i : Int))).isSome = decide (i ∈ Bt) := fun i => by
    rw [← valV_any]
    have : (kvs.any fun kv => decide (kv.1 = (Sum.inl (i : Int) : Key))) = ((kvs.map (·.1)).any fun k => decide (k = (Sum.inl (i : Int) : Key))) := by rw [List.any_map] <;> rfl
    rw [this, hk, List.any_map, Bool.eq_iff_iff, List.any_eq_true, decide_eq_true_iff]
    constructor
    · rintro ⟨j, hj, e⟩
      have e2 := Sum.inl.inj (of_decide_eq_true e)
      have : j = i := by omega
      exact this ▸ hj
    · intro h
      exact ⟨i, h, decide_eq_true rfl⟩
  have SA' := SA.same hS
  obtain ⟨dx, hi⟩ := SA'.ins
  refine ⟨_, rfl, lw, _, rfl, .inl (SqL.of hw), _, _, rfl, rfl, _, rfl, ?_⟩
  rw [List.length_map]
  cases m with
  | zero =>
    cases (show (Wt, Bt) = ([], Be) from hc)
    refine iteF ?_
    have hs := hin n
    rw [decide_eq_true hnB] at hs
    obtain ⟨u, hu'⟩ := Option.isSome_iff_exists.mp hs
    exact ⟨_, rfl, _, rfl, bd, u, rfl, (by rw [← hu']; exact DGet.k (k := Sum.inl (n : Int)) hb), k H' u hS (hR n u hu' v hD)⟩
  | succ m =>
    obtain ⟨C, hst, hc⟩ := hc
    have hlen : kvs.length = Bt.length := by have := congrArg List.length hk; simpa using this
    have body : ∀ (n' : Nat) (W0 : List Nat), Wt = W0 ++ [n'] → H' lw = some (.lst (W0.map vI ++ [vI n'])) := fun n' W0 e => by rw [hw, e, List.map_append] <;> rfl
    have wpos : ∀ (n' : Nat) (W0 : List Nat), Wt = W0 ++ [n'] → decide ((0 : Int) < (Wt.length : Int)) = true := fun n' W0 e => decide_eq_true (by rw [e, List.length_append, List.length_singleton]; omega)
    -- a new value is put
    have putR : ∀ (n' : Nat) (u : V) (H2 : Hp), n' ∉ Bt → (∀ b o, H' b = some o → Fix o → H2 b = some o) → (∀ y, Den st n' y → Rep K H2 y u) → valV kvs (Sum.inl (n' : Int)) = none ∧ putK kvs (Sum.inl (n' : Int)) u = kvs ++ [(Sum.inl (n' : Int), u)] ∧
        (kvs ++ [((Sum.inl (n' : Int) : Key), u)]).map (·.1) = (Bt ++ [n']).map (fun (i : Nat) => (Sum.inl (i : Int) : Key)) ∧ ∀ (i : Nat) u', valV (kvs ++ [((Sum.inl (n' : Int) : Key), u)]) (Sum.inl (i : Int)) = some u' → ∀ y, Den st i y → Rep K H2 y u' := fun n' u H2 hn hS2 hu' => by
      have h0 : valV kvs (Sum.inl (n' : Int)) = none := by
        have := hin n'
        rw [decide_eq_false hn] at this
        exact Option.isSome_eq_false_iff.mp this |> Option.isNone_iff_eq_none.mp
      refine ⟨h0, putK_new _ h0, by rw [List.map_append, hk, List.map_append] <;> rfl, fun i u' hu2 y hy => ?_⟩
      rw [valV_snoc _ _ _ _ h0] at hu2
      by_cases e : (Sum.inl (i : Int) : Key) = Sum.inl (n' : Int)
      · rw [if_pos e] at hu2
        cases hu2
        have : i = n' := by have := Sum.inl.inj e; omega
        subst this
        exact hu' y hy
      · rw [if_neg e] at hu2
        exact Rep.keep hS2 (hR i u' hu2 y hy)
    have fb : ∀ (H2 : Hp) (o' : HO), Same H' H2 → ∀ b o, H' b = some o → Fix o → upd H2 bd o' b = some o := fun H2 o' h2 b o h hf => by
      rw [upd_ne (fun e => by rw [e, hb] at h; cases h; exact hf)]
      exact h2 _ _ h
    have nX : ∀ {b : Addr} {o : HO}, H b = some o → b ≠ bd ∧ b ≠ lw := fun h => ⟨ne_of_none h hbd, ne_of_none h lw0⟩
    refine iteP (by cases hst <;> exact wpos _ _ rfl) ⟨fun σ2 H2 => ∃ (Wt Bt : List Nat) (kvs : List (Key × V)) (o4 o5 o6 o7 : Option V), σ2 = [some (.ref a.s), some (vI n), some (.ref bd), some (.ref lw), o4, o5, o6, o7] ∧ C = (Wt, Bt) ∧ Same H H2 ∧ H2 lw = some (.lst (Wt.map vI)) ∧
      H2 bd = some (.dK kvs) ∧ kvs.map (·.1) = Bt.map (fun (i : Nat) => (Sum.inl (i : Int) : Key)) ∧ ∀ (i : Nat) u, valV kvs (Sum.inl (i : Int)) = some u → ∀ y, Den st i y → Rep K H2 y u, ?_, ?_⟩
    · rintro σ2 H2 ⟨W2, B2, k2, p4, p5, p6, p7, rfl, rfl, r⟩
      exact ⟨m, by omega, W2, B2, k2, p4, p5, p6, p7, rfl, hc, r⟩
    cases hst with
    | @pop W0 _ n' hn =>
      have hw' := body n' W0 rfl
      refine ⟨_, rfl, _, rfl, lw, _, _, _, rfl, rfl, SqL.of hw', atI_last _ _, ?_⟩
      refine ⟨_, rfl, _, rfl, bd, _, rfl, DGet.k (k := Sum.inl (n' : Int)) hb, _, rfl, ?_⟩
      rw [hin n', decide_eq_true hn]
      refine iteT ⟨_, rfl, .inl ⟨rfl, _, SqL.of hw'⟩, lw, _, _, rfl, rfl, hw', (popR _ _).1, ?_⟩
      rw [(popR _ _).2]
      have sx : Same H (upd H' lw (.lst (W0.map vI))) := fun b o h => by rw [upd_ne (nX h).2]; exact hS b o h
      refine ⟨W0, Bt, kvs, _, _, _, _, rfl, rfl, sx, upd_same, (upd_ne nbl).trans hb, hk, fun i u hu y hy => Rep.keep (fun b o h hf => ?_) (hR i u hu y hy)⟩
      rw [upd_ne (fun e => by rw [e, hw] at h; cases h; exact hf)]
      exact h
    | @word W0 _ n' x hn he hL =>
      have hw' := body n' W0 rfl
      refine ⟨_, rfl, _, rfl, lw, _, _, _, rfl, rfl, SqL.of hw', atI_last _ _, ?_⟩
      refine ⟨_, rfl, _, rfl, bd, _, rfl, DGet.k (k := Sum.inl (n' : Int)) hb, _, rfl, ?_⟩
      rw [hin n', decide_eq_false hn]
      refine iteF ⟨_, rfl, a.s, dx, _, rfl, hi, rfl, _, rfl, a, st, n', rfl, SA', (List.getElem?_eq_some_iff.mp he).1, _, rfl, ?_⟩
      rw [isWd_of he]
      obtain ⟨es, hE, hat⟩ := SA'.at
      obtain ⟨u, hu1, hu2⟩ := hat n' _ he
      cases (show u = .str x from hu2)
      obtain ⟨g1, g2, g3, g4⟩ := putR n' (.str x) (upd H' bd (.dK (kvs ++ [(Sum.inl (n' : Int), .str x)]))) hn (fb H' _ (Same.refl _)) (fun y hy => by rw [hy.fn (.wd he)]; rfl)
      refine iteT ⟨_, rfl, _, _, _, _, _, rfl, hi, T.cl, T.nE, rfl, _, rfl, a.le, _, _, _, rfl, rfl, SqL.of hE, atI_of hu1, _, rfl, _, rfl, bd, _, rfl, DPut.k (k := Sum.inl (n' : Int)) hb (by rw [hlen]; exact small7 (by omega)), ?_⟩
      rw [g2]
      refine ⟨W0 ++ [n'], Bt ++ [n'], _, _, _, _, _, rfl, rfl, fun b o h => ?_, (upd_ne nbl.symm).trans hw, upd_same, g3, g4⟩
      rw [upd_ne (nX h).1]
      exact hS b o h
    | @build W0 _ n' ns hn he ha hL hWL =>
      have hw' := body n' W0 rfl
      have hnw : isWd st n' = false := by
        rcases he.isL with h | ⟨_, _, h⟩ <;> rw [isWd_of h] <;> rfl
      refine ⟨_, rfl, _, rfl, lw, _, _, _, rfl, rfl, SqL.of hw', atI_last _ _, ?_⟩
      refine ⟨_, rfl, _, rfl, bd, _, rfl, DGet.k (k := Sum.inl (n' : Int)) hb, _, rfl, ?_⟩
      rw [hin n', decide_eq_false hn]
      refine iteF ⟨_, rfl, a.s, dx, _, rfl, hi, rfl, _, rfl, a, st, n', rfl, SA', he.isL.lt, _, rfl, ?_⟩
      rw [hnw]
      -- items = self.items_of(one)
      refine iteF ⟨_, rfl, a.s, dx, _, rfl, hi, rfl, _, rfl, a, st, n', ns, rfl, SA', he, hl, fun H2 p S2 p0 hp => ?_⟩
      refine ⟨_, rfl, p, rfl, ⟨_, SqL.of hp⟩, fun D hD0 => ?_⟩
      have hnl : ns.length ≤ 10000000 := Nat.le_trans (he.len SA.wf) (Nat.le_of_lt (Nat.lt_of_lt_of_le he.isL.lt hl))
      refine lc_list (K := K) (a := p) (xs := ns.map vI) (fun i H3 => Same H2 H3 ∧ H3 D = some (.lst (((ns.take i).filter (fun j => decide (j ∉ Bt))).map vI))) ⟨Same.new hD0, upd_same⟩ (fun i H3 _ h => SqL.of (h.1 _ _ hp)) ?_ ?_
      · rintro i z H3 hz ⟨h1, h2⟩
        rw [List.getElem?_map] at hz
        obtain ⟨j, hj, rfl⟩ := Option.map_eq_some_iff.mp hz
        have hb3 := h1 _ _ (S2 _ _ hb)
        refine ⟨rfl, _, rfl, _, rfl, bd, _, rfl, DGet.k (k := Sum.inl (j : Int)) hb3, _, rfl, ?_⟩
        rw [hin j]
        have e1 : (ns.take (i + 1)).filter (fun j => decide (j ∉ Bt)) = (ns.take i).filter (fun j => decide (j ∉ Bt)) ++ (if j ∈ Bt then [] else [j]) := by
          rw [List.take_add_one, hj, List.filter_append]
          by_cases h : j ∈ Bt <;> simp [h]
        rw [e1]
        by_cases h : j ∈ Bt
        · rw [decide_eq_true h, if_pos h, List.append_nil]
          exact iteF ⟨h1, h2⟩
        · rw [decide_eq_false h, if_neg h]
          refine iteT ⟨_, rfl, _, h2, (by rw [List.length_map]; exact small7 (Nat.le_trans (List.length_filter_le _ _) (by rw [List.length_take]; omega))), fun b o hb' => ?_, ?_⟩
          · rw [upd_ne (ne_of_none hb' hD0)]
            exact h1 _ _ hb'
          · rw [upd_same, List.map_append] <;> rfl
      · rintro H3 ⟨h1, h2⟩
        rw [List.length_map, List.take_length, List.filter_eq_nil_iff.mpr (fun j hj => by simpa using ha j hj)] at h2
        have hp3 := h1 _ _ hp
        have hb3 := h1 _ _ (S2 _ _ hb)
        refine ⟨_, rfl, D, _, rfl, .inl (SqL.of h2), rfl, _, rfl, iteP (by rfl) ?_⟩
        -- built[one] = tuple([built[item] for item in items])
        refine ⟨_, rfl, p, rfl, ⟨_, SqL.of hp3⟩, fun D2 hD2 => ?_⟩
        refine lc_list (K := K) (a := p) (xs := ns.map vI) (fun i H4 => Same H3 H4 ∧ ∃ us, H4 D2 = some (.lst us) ∧ Paired (fun (j : Nat) (u : V) => valV kvs (Sum.inl (j : Int)) = some u) (ns.take i) us) ⟨Same.new hD2, [], upd_same, .nil⟩ (fun i H4 _ h => SqL.of (h.1 _ _ hp3)) ?_ ?_
        · rintro i z H4 hz ⟨h3, us, h4, h5⟩
          rw [List.getElem?_map] at hz
          obtain ⟨j, hj, rfl⟩ := Option.map_eq_some_iff.mp hz
          have hs := hin j
          rw [decide_eq_true (ha j (List.mem_of_getElem? hj))] at hs
          obtain ⟨u, hu'⟩ := Option.isSome_iff_exists.mp hs
          refine ⟨rfl, ?_⟩
          dsimp only [tYes]
          rw [if_pos rfl]
          have hlu : us.length ≤ ns.length := by have := h5.length; rw [← this, List.length_take]; omega
          refine ⟨_, rfl, _, rfl, bd, u, rfl, (by rw [← hu']; exact DGet.k (k := Sum.inl (j : Int)) (h3 _ _ hb3)), us, h4, small7 (by omega), fun b o hb' => ?_, us ++ [u], upd_same, ?_⟩
          · rw [upd_ne (ne_of_none hb' hD2)]
            exact h3 _ _ hb'
          · rw [List.take_add_one, hj]
            exact paired_app h5 (.cons hu' .nil)
        · rintro H4 ⟨h3, us, h4, h5⟩
          rw [List.length_map, List.take_length] at h5
          refine ⟨D2, us, rfl, .inl ⟨SqL.of h4, fun l hl0 => ?_⟩⟩
          have s5 : Same H' (upd H4 l (.tup us)) := S2.trans (h1.trans (h3.trans (Same.new hl0)))
          have hb5 := s5 _ _ hb
          have hw5 := s5 _ _ hw
          have hD5 : upd H4 l (.tup us) D = some (.lst []) := (Same.new hl0) _ _ (h3 _ _ h2)
          have nDb : D ≠ bd := fun e => by rw [e] at h2; rw [hb3] at h2; cases h2
          have ht5 : upd H4 l (.tup us) l = some (.tup us) := upd_same
          have nlb : l ≠ bd := fun e => by rw [e] at hl0; rw [h3 _ _ hb3] at hl0; cases hl0
          generalize upd H4 l (.tup us) = H5 at s5 hb5 hw5 hD5 ht5 ⊢
          have hsn := hin n'
          rw [decide_eq_false hn] at hsn
          obtain ⟨g1, g2, g3, g4⟩ := putR n' (.ref l) (upd H5 bd (.dK (kvs ++ [(Sum.inl (n' : Int), .ref l)]))) hn (fb H5 _ s5) (fun y hy => by
            obtain ⟨xs, rfl, hd⟩ := he.list hy
            refine ⟨l, us, rfl, SqT.of ((upd_ne nlb).trans ht5), ?_⟩
            exact Reps.keep (fb H5 _ s5) (reps_of hR h5 hd))
          refine ⟨_, rfl, _, rfl, bd, _, rfl, DPut.k (k := Sum.inl (n' : Int)) hb5 (by rw [hlen]; exact small7 (by omega)), ?_⟩
          rw [g2]
          -- waiting.extend(missing)
          have hw6 : upd H5 bd (.dK (kvs ++ [(Sum.inl (n' : Int), .ref l)])) lw = some (.lst ((W0 ++ [n']).map vI)) := (upd_ne nbl.symm).trans hw5
          have hD6 : upd H5 bd (.dK (kvs ++ [(Sum.inl (n' : Int), .ref l)])) D = some (.lst []) := (upd_ne nDb).trans hD5
          refine ⟨_, rfl, .inl ⟨rfl, _, SqL.of hw6⟩, _, rfl, lw, D, _, _, rfl, rfl, hw6, hD6, (by rw [List.length_map, List.length_append, List.length_singleton]; exact Nat.le_of_lt (small7 (by show W0.length + 1 + 0 ≤ _; omega))), ?_⟩
          refine ⟨W0 ++ [n'], Bt ++ [n'], _, _, _, _, _, rfl, rfl, fun b o h => ?_, by rw [upd_same, List.append_nil], (upd_ne nbl).trans upd_same, g3, fun i u hu y hy => Rep.keep (fun b o h hf => ?_) (g4 i u hu y hy)⟩
          · rw [upd_ne (nX h).2, upd_ne (nX h).1]
            exact s5 _ _ (hS _ _ h)
          · rw [upd_ne (fun e => by rw [e, hw6] at h; cases h; exact hf)]
            exact h
    | @push W0 _ n' ns hn he ha hL =>
      have hw' := body n' W0 rfl
      have hnw : isWd st n' = false := by
        rcases he.isL with h | ⟨_, _, h⟩ <;> rw [isWd_of h] <;> rfl
      refine ⟨_, rfl, _, rfl, lw, _, _, _, rfl, rfl, SqL.of hw', atI_last _ _, ?_⟩
      refine ⟨_, rfl, _, rfl, bd, _, rfl, DGet.k (k := Sum.inl (n' : Int)) hb, _, rfl, ?_⟩
      rw [hin n', decide_eq_false hn]
      refine iteF ⟨_, rfl, a.s, dx, _, rfl, hi, rfl, _, rfl, a, st, n', rfl, SA', he.isL.lt, _, rfl, ?_⟩
      rw [hnw]
      -- items = self.items_of(one)
      refine iteF ⟨_, rfl, a.s, dx, _, rfl, hi, rfl, _, rfl, a, st, n', ns, rfl, SA', he, hl, fun H2 p S2 p0 hp => ?_⟩
      refine ⟨_, rfl, p, rfl, ⟨_, SqL.of hp⟩, fun D hD0 => ?_⟩
      have hnl : ns.length ≤ 10000000 := Nat.le_trans (he.len SA.wf) (Nat.le_of_lt (Nat.lt_of_lt_of_le he.isL.lt hl))
      refine lc_list (K := K) (a := p) (xs := ns.map vI) (fun i H3 => Same H2 H3 ∧ H3 D = some (.lst (((ns.take i).filter (fun j => decide (j ∉ Bt))).map vI))) ⟨Same.new hD0, upd_same⟩ (fun i H3 _ h => SqL.of (h.1 _ _ hp)) ?_ ?_
      · rintro i z H3 hz ⟨h1, h2⟩
        rw [List.getElem?_map] at hz
        obtain ⟨j, hj, rfl⟩ := Option.map_eq_some_iff.mp hz
        have hb3 := h1 _ _ (S2 _ _ hb)
        refine ⟨rfl, _, rfl, _, rfl, bd, _, rfl, DGet.k (k := Sum.inl (j : Int)) hb3, _, rfl, ?_⟩
        rw [hin j]
        have e1 : (ns.take (i + 1)).filter (fun j => decide (j ∉ Bt)) = (ns.take i).filter (fun j => decide (j ∉ Bt)) ++ (if j ∈ Bt then [] else [j]) := by
          rw [List.take_add_one, hj, List.filter_append]
          by_cases h : j ∈ Bt <;> simp [h]
        rw [e1]
        by_cases h : j ∈ Bt
        · rw [decide_eq_true h, if_pos h, List.append_nil]
          exact iteF ⟨h1, h2⟩
        · rw [decide_eq_false h, if_neg h]
          refine iteT ⟨_, rfl, _, h2, (by rw [List.length_map]; exact small7 (Nat.le_trans (List.length_filter_le _ _) (by rw [List.length_take]; omega))), fun b o hb' => ?_, ?_⟩
          · rw [upd_ne (ne_of_none hb' hD0)]
            exact h1 _ _ hb'
          · rw [upd_same, List.map_append] <;> rfl
      · rintro H3 ⟨h1, h2⟩
        rw [List.length_map, List.take_length] at h2
        have hne : ((ns.filter (fun j => decide (j ∉ Bt))).map vI).length ≠ 0 := by rw [List.length_map]; exact fun e => ha (List.length_eq_zero_iff.mp e)
        refine ⟨_, rfl, D, _, rfl, .inl (SqL.of h2), rfl, _, rfl, iteN (decide_eq_false (fun e => hne (by injection e with e; omega))) ?_⟩
        have hw3 := h1 _ _ (S2 _ _ hw)
        refine ⟨_, rfl, .inl ⟨rfl, _, SqL.of hw3⟩, _, rfl, lw, D, _, _, rfl, rfl, hw3, h2, (by rw [← List.length_append, ← List.map_append, List.length_map]; exact Nat.le_of_lt (small7 (by omega))), ?_⟩
        refine ⟨W0 ++ [n'] ++ ns.filter (fun j => decide (j ∉ Bt)), Bt, kvs, _, _, _, _, rfl, rfl, fun b o h => ?_, by rw [upd_same, ← List.map_append], (upd_ne nbl).trans (h1 _ _ (S2 _ _ hb)), hk, fun i u hu y hy => Rep.keep (fun b o h hf => ?_) (hR i u hu y hy)⟩
        · rw [upd_ne (nX h).2]
          exact h1 _ _ (S2 _ _ (hS _ _ h))
        · rw [upd_ne (fun e => by rw [e, hw] at h; cases h; exact hf)]
          exact h1 _ _ (S2 _ _ h)
end
end Og
namespace Og
open PySem PySem.Spec L2
/-- a class of the module and its __init__ -/
abbrev CDef (K : PySem.W.Frag) (mg : Str → Option Value) (x : Str) (C : Addr) (qual : Str) (st : Stmt) (kws : List (Str × V)) : Prop :=
  mg x = some (.ref C) ∧ ∃ (f : Addr) (fd : FuncData), FunD K "__init__" qual (defArgs st) (defBody st) (defScope st) [] kws f fd ∧ Mk K C f
section
variable {P : Program} {w : World} {K : PySem.W.Frag} {mg : Str → Option Value} {base : Heap} {CS : Addr}
theorem mak_of {x qual : Str} {C : Addr} {st : Stmt} {N ps : List Str} {k : Nat} {sp : Sp} (g : CDef K mg x C qual st []) (S : FnScope N ps (defScope st)) (hbind : BindOf "__init__" qual st ps)
    (len : ∀ vs H Q E, sp vs H Q E → vs.length = ps.length) (hb : BodyOf P w K mg base qual st N k sp) : C8.Mak P w K mg base (k + 1) x C sp [] := by
  obtain ⟨hm, f, fd, F, M⟩ := g
  exact ⟨f, fd, ps, [], M, fnok_of F S len hb, hm, F.bindsN hbind, .nil⟩
/-! ### Store() -/
abbrev sSInit : Stmt := inClass (top 23) 0
def spSInit (w : World) (C : Addr) : Sp := fun vs H Q _ => ∃ (s dx : Addr), vs = [.ref s] ∧ H s = some (.ins C dx []) ∧
  ∀ H' a, a.s = s → StoreAt w C H' a [Ent.nil] → (∀ b ∈ a.own, H b = none) → (∀ b o, H b = some o → b ≠ s → H' b = some o) → Q .non H'
theorem scSInit : FnScope ["self"] ["self"] (defScope sSInit) := ⟨rfl, rfl, rfl, by decide +kernel, rfl, by decide +kernel, by decide +kernel⟩
theorem ok_s_init (T : SCl K CS) (g : CDef K mg "Store" CS "Store.__init__" sSInit []) : C8.Mak P w K mg base 1 "Store" CS (spSInit w CS) [] := by
  refine mak_of g scSInit (fun _ _ _ _ _ _ us hl => match us, hl with | [_], _ => rfl) (fun vs H Q E h => ?_) (fun f cdv A outer s H vs Q E hr h => ?_)
  · obtain ⟨s, dx, rfl, _⟩ := h; rfl
  obtain ⟨p, dx, rfl, hp, k⟩ := h
  refine ⟨_, pss_cons (ps_fld (pv 0) (pe_lst (pa_cons (pe_tup pa_nil) pa_nil)) rfl) (pss_cons (ps_fld (pv 0) (pe_numNew (w := w) rfl) rfl) (pss_cons (ps_fld (pv 0) (pe_lst (pa_cons pe_int pa_nil)) rfl) (pss_one (ps_fld (pv 0) (pe_lst (pa_cons pe_int pa_nil)) rfl)))), ?_⟩
  refine ⟨Nat.zero_le _, fun t ht => ⟨(by show 1 ≤ sizeLine; decide), fun le hle => ?_⟩⟩
  have npt : p ≠ t := ne_of_none hp ht
  have a1 : Same H (upd H t (.tup [])) := Same.new ht
  have a2 : Same H (upd (upd H t (.tup [])) le (.lst [.ref t])) := a1.trans (Same.new hle)
  have e2 : upd (upd H t (.tup [])) le (.lst [.ref t]) le = some (.lst [.ref t]) := upd_same
  have t2 : upd (upd H t (.tup [])) le (.lst [.ref t]) t = some (.tup []) := (Same.new hle) _ _ upd_same
  have le0 : H le = none := Same.free a1 hle
  have ht0 : H t = none := ht
  generalize upd (upd H t (.tup [])) le (.lst [.ref t]) = H2 at a2 e2 t2 ⊢
  have npe : p ≠ le := ne_of_none hp le0
  refine ⟨_, rfl, p, CS, dx, _, rfl, a2 _ _ hp, T.cl, T.nE, (by show 0 < 1000; decide), fun nd hnd => ?_⟩
  have npn : p ≠ nd := fun e => by rw [← e, upd_same] at hnd; cases hnd
  have hnd2 : H2 nd = none := by rw [upd_ne npn.symm] at hnd; exact hnd
  have nen : le ≠ nd := ne_of_none e2 hnd2
  have ntn : t ≠ nd := ne_of_none t2 hnd2
  refine ⟨_, rfl, p, CS, dx, _, rfl, (upd_ne npn).trans upd_same, T.cl, T.nN, (by show 1 < 1000; decide), (by show 1 ≤ sizeLine; decide), fun ls hls => ?_⟩
  have npl : p ≠ ls := fun e => by rw [← e, upd_same] at hls; cases hls
  rw [upd_ne npl.symm] at hls
  have nnl : nd ≠ ls := fun e => by rw [← e, upd_same] at hls; cases hls
  rw [upd_ne nnl.symm, upd_ne npl.symm] at hls
  have nel : le ≠ ls := ne_of_none e2 hls
  have ntl : t ≠ ls := ne_of_none t2 hls
  refine ⟨_, rfl, p, CS, dx, _, rfl, (upd_ne npl).trans upd_same, T.cl, T.nS, (by show 2 < 1000; decide), (by show 1 ≤ sizeLine; decide), fun ld hld => ?_⟩
  have npd : p ≠ ld := fun e => by rw [← e, upd_same] at hld; cases hld
  rw [upd_ne npd.symm] at hld
  have nld : ls ≠ ld := fun e => by rw [← e, upd_same] at hld; cases hld
  rw [upd_ne nld.symm, upd_ne npd.symm] at hld
  have nnd : nd ≠ ld := fun e => by rw [← e, upd_same] at hld; cases hld
  rw [upd_ne nnd.symm, upd_ne npd.symm] at hld
  have ned : le ≠ ld := ne_of_none e2 hld
  have ntd : t ≠ ld := ne_of_none t2 hld
  refine ⟨_, rfl, p, CS, dx, _, rfl, (upd_ne npd).trans upd_same, T.cl, T.nD, (by show 3 < 1000; decide), ?_⟩
  refine k _ ⟨p, le, nd, ls, ld⟩ rfl ⟨⟨dx, upd_same⟩, ⟨t, [], [1], [1], ?_, ?_, fun k hk => by simp at hk, ?_, ?_, ?_, rfl, ⟨rfl, rfl, fun n e h => ?_, fun n e h => ?_⟩⟩, ⟨by simp, rfl, fun n e h => ?_⟩, nel, ned, nld⟩ (fun b hb => ?_) (fun b o h hne => ?_)
  · rw [upd_ne npe.symm, upd_ne ned, upd_ne npe.symm, upd_ne nel, upd_ne npe.symm, upd_ne nen, upd_ne npe.symm]
    exact e2
  · rw [upd_ne npt.symm, upd_ne ntd, upd_ne npt.symm, upd_ne ntl, upd_ne npt.symm, upd_ne ntn, upd_ne npt.symm]
    exact t2
  · rw [upd_ne npn.symm, upd_ne nnd, upd_ne npn.symm, upd_ne nnl, upd_ne npn.symm, upd_same] <;> rfl
  · rw [upd_ne npl.symm, upd_ne nld, upd_ne npl.symm, upd_same] <;> rfl
  · rw [upd_ne npd.symm, upd_same] <;> rfl
  · cases n with
    | zero => cases (show Ent.nil = e by simpa using h); rfl
    | succ n => simp at h
  · cases n with
    | zero => cases (show Ent.nil = e by simpa using h); rfl
    | succ n => simp at h
  · cases n with
    | zero => cases (show Ent.nil = e by simpa using h); rfl
    | succ n => simp at h
  · simp only [SAd.own, List.mem_cons, List.not_mem_nil, or_false] at hb
    rcases hb with rfl | rfl | rfl | rfl
    · exact le0
    · exact Same.free a2 hnd2
    · exact Same.free a2 hls
    · exact Same.free a2 hld
  · have g := a2 _ _ h
    rw [upd_ne hne, upd_ne (ne_of_none g hld), upd_ne hne, upd_ne (ne_of_none g hls), upd_ne hne, upd_ne (ne_of_none g hnd2), upd_ne hne]
    exact g
end
end Og
/-! zip of a list and a tuple. -/
namespace Og
open PySem PySem.Spec PyProof.Rows L2
/-- the list at a and the tuple at b as they stand at each turn, the items in new pairs -/
def ItzM (K : PySem.W.Frag) (a b : Addr) : It :=
  ⟨fun i H => ∃ (xs ys : List V) (x y : V), SqL K H a xs ∧ SqT K H b ys ∧ xs[i]? = some x ∧ ys[i]? = some y,
    fun i H v H' => ∃ T x y, v = .ref T ∧ H T = none ∧ H' = upd H T (.tup [x, y]) ∧ (∀ xs, SqL K H a xs → xs[i]? = some x) ∧ ∀ ys, SqT K H b ys → ys[i]? = some y,
    fun i H => ∃ xs ys : List V, SqL K H a xs ∧ SqT K H b ys ∧ xs.length = i ∧ ys.length = i⟩
theorem turn_zipM {P : Program} {w : World} {K : PySem.W.Frag} {elts : List Expr} {kk : Nat} {tpos : Pos} {a b z TI TO i1 i2 : Addr} (D : ZipSep2 z TI TO i1 i2 [i1, a] [i2, b]) :
    Turn P w K (.Tuple elts kk tpos) (ItzM K a b) [z, TI, TO, i1, i2] z (fun i h => IsZip h z TI TO .none ∧ IsTupOf2 h TI (.ref i1) (.ref i2) ∧ (∃ x y, IsTupOf2 h TO x y) ∧ h.IsListIter i1 a i ∧ h.IsTupleIter i2 b i) where
  mem := by simp
  obj := fun i h st c hc => by
    obtain ⟨hz, hTI, ⟨x, y, hTO⟩, ⟨o1, e1, _, d1⟩, ⟨o2, e2, _, d2⟩⟩ := st
    have e' : c = z ∨ c = TI ∨ c = TO ∨ c = i1 ∨ c = i2 := by simpa using hc
    rcases e' with q | q | q | q | q
    · rw [q]; exact ⟨_, hz, fun v q => nomatch q⟩
    · rw [q]; exact ⟨_, hTI, fun v q => nomatch q⟩
    · rw [q]; exact ⟨_, hTO, fun v q => nomatch q⟩
    · rw [q]; exact ⟨o1, e1, fun v q => by rw [d1] at q; cases q⟩
    · rw [q]; exact ⟨o2, e2, fun v q => by rw [d2] at q; cases q⟩
  keep := fun i h h' st k => by
    obtain ⟨hz, hTI, ⟨x, y, hTO⟩, h1, h2⟩ := st
    exact ⟨k z (by simp) _ hz, k TI (by simp) _ hTI, ⟨x, y, k TO (by simp) _ hTO⟩, h1.at fun o q => k i1 (by simp) o q, h2.at fun o q => k i2 (by simp) o q⟩
  item := by
    intro X hP hw hK hc i pins s σ H E I hf st hg
    subst hP hw hK
    obtain ⟨hz, hTI, ⟨x0, y0, hTO⟩, h1, h2⟩ := st
    obtain ⟨xs, ys, x, y, hqx, hqy, hx, hy⟩ := hg
    obtain ⟨its, rv, p, _⟩ := I.list hqx
    obtain ⟨its2, rv2, p2, _⟩ := I.tuple hqy
    obtain ⟨u, hu, ru⟩ := rv.get hx
    obtain ⟨u2, hu2, ru2⟩ := rv2.get hy
    have hzl : z < s.heap.objs.size := Heap.lt_size hz
    have d1 : a ≠ i1 := fun e => by
      obtain ⟨o1, e1, c1, _⟩ := h1
      obtain ⟨o2, e2, c2, _⟩ := p.isList
      rw [e, e1] at e2
      cases e2
      rw [c1] at c2
      exact absurd c2 (by decide)
    have d2 : b ≠ i2 := fun e => by
      obtain ⟨o1, e1, c1, _⟩ := h2
      obtain ⟨o2, e2, c2, _⟩ := p2
      rw [e, e1] at e2
      cases e2
      rw [c1] at c2
      exact absurd c2 (by decide)
    have hh : X.A.in1.handled = none := I.ok.hd hc
    have l1 : i < its.toArray.size := by rw [List.size_toArray]; exact (List.getElem?_eq_some_iff.mp hu).1
    have l2 : i < its2.toArray.size := by rw [List.size_toArray]; exact (List.getElem?_eq_some_iff.mp hu2).1
    refine wpAny_pyNext_zipD2_item D (Draws.list hh i1 a d1 its.toArray) (Draws.tuple hh i2 b d2 its2.toArray) hz hTI hTO ⟨h1, p.isList⟩ ⟨h2, p2⟩ l1 l2 fun x1 x2 h' tk q1 q2 z' TO' s1 s2 hT hsz hk => ?_
    have e1 : u = x1 := by
      have : its[i]? = some x1 := by simpa using q1
      rw [hu] at this; exact Option.some.inj this
    have e2 : u2 = x2 := by
      have : its2[i]? = some x2 := by simpa using q2
      rw [hu2] at this; exact Option.some.inj this
    subst e1 e2
    refine ⟨_, rfl, wpAny_letOwnedTupleGo_zip (s := { s with heap := h', toks := tk }) z' fun h'' z'' sb => ?_⟩
    have hT2 : h''.get? s.heap.objs.size = some { cls := .type "tuple", data := .seq #[u, u2] } := (sb.2 _ (Nat.ne_of_gt hzl)).trans hT
    have new : ObjOk X.prog X.w (upd H s.heap.objs.size (.tup [x, y])) h'' s.heap.objs.size (.tup [x, y]) :=
      ⟨by show 2 ≤ sizeLine; decide, [u, u2], .cons ru (.cons ru2 .nil), ⟨_, hT2, rfl, _, rfl⟩⟩
    have I1 : Inv X pins σ (upd H s.heap.objs.size (.tup [x, y])) { s with heap := h'', toks := tk } :=
      I.turnedNew (t' := tk) (ch := [z, TI, TO, i1, i2]) (fun c o hb q => (sb.2 c (fun q' => hb (by simp [q']))).trans (hk c o (fun q' => hb (by simp [q'])) (fun q' => hb (by simp [q'])) (fun q' => hb (by simp [q'])) (fun q' => hb (by simp [q'])) q)) hf (Nat.le_refl _) new
    have i1z : i1 ≠ z := fun e => D.zf1 (by simp [e])
    have i2z : i2 ≠ z := fun e => D.zf2 (by simp [e])
    refine ⟨.ref s.heap.objs.size, _, I1, rfl, ⟨_, x, y, rfl, I.hok.fresh (Nat.le_refl _), rfl, fun l hl => by rw [I.list_inj hl hqx]; exact hx, fun l hl => by rw [I.tuple_inj hl hqy]; exact hy⟩, ⟨z'', ?_, ⟨u, u2, ?_⟩, ?_, ?_⟩, fun c hcm => ?_⟩
    · exact (sb.2 _ D.TIz).trans (hk _ _ D.TIz D.TITO D.TIi1 D.TIi2 hTI)
    · exact (sb.2 _ D.TOz).trans TO'
    · exact s1.1.at fun o q => (sb.2 _ i1z).trans q
    · exact s2.1.at fun o q => (sb.2 _ i2z).trans q
    · have hlt : c < s.heap.objs.size := by
        have e' : c = z ∨ c = TI ∨ c = TO ∨ c = i1 ∨ c = i2 := by simpa using hcm
        rcases e' with q | q | q | q | q
        · rw [q]; exact hzl
        · rw [q]; exact Heap.lt_size hTI
        · rw [q]; exact Heap.lt_size hTO
        · rw [q]; obtain ⟨_, e1, _⟩ := h1; exact Heap.lt_size e1
        · rw [q]; obtain ⟨_, e2, _⟩ := h2; exact Heap.lt_size e2
      rw [upd_ne (Nat.ne_of_lt hlt)]
      exact (hf c hcm).1
  done := by
    intro X hP hw hK hc i pins s σ H E I hf st hg
    subst hP hw hK
    obtain ⟨hz, hTI, ⟨x0, y0, hTO⟩, h1, h2⟩ := st
    obtain ⟨xs, ys, hqx, hqy, hend1, hend2⟩ := hg
    obtain ⟨its, rv, p, _⟩ := I.list hqx
    obtain ⟨its2, rv2, p2, _⟩ := I.tuple hqy
    have l1 := rv.length
    have l2 := rv2.length
    have d1 : a ≠ i1 := fun e => by
      obtain ⟨o1, e1, c1, _⟩ := h1
      obtain ⟨o2, e2, c2, _⟩ := p.isList
      rw [e, e1] at e2
      cases e2
      rw [c1] at c2
      exact absurd c2 (by decide)
    have d2 : b ≠ i2 := fun e => by
      obtain ⟨o1, e1, c1, _⟩ := h2
      obtain ⟨o2, e2, c2, _⟩ := p2
      rw [e, e1] at e2
      cases e2
      rw [c1] at c2
      exact absurd c2 (by decide)
    have hh : X.A.in1.handled = none := I.ok.hd hc
    have l1 : i = its.toArray.size := by rw [List.size_toArray]; omega
    have l2 : i = its2.toArray.size := by rw [List.size_toArray]; omega
    exact wpAny_pyNext_zipD2_end D (Draws.list hh i1 a d1 its.toArray) (Draws.tuple hh i2 b d2 its2.toArray) hz hTI hTO ⟨h1, p.isList⟩ ⟨h2, p2⟩ (by omega) (by omega) (.inl l1) fun h' tk hk => ⟨rfl, I.turnedL (t' := tk) (ch := [z, TI, TO, i1, i2]) (fun c o hb q =>
      hk c o (fun q' => hb (by simp [q'])) (fun q' => hb (by simp [q'])) (fun q' => hb (by simp [q'])) (fun q' => hb (by simp [q'])) q) hf⟩
  self := fun A i s Q E st h => wpAny_pyIter_zip st.1 h

def iZipM (K : PySem.W.Frag) (ta : TA) : TI := fun σ H R => ta σ H fun vs H1 => ∃ a b xs ys, vs = [.ref a, .ref b] ∧ SqL K H1 a xs ∧ SqT K H1 b ys ∧ R (ItzM K a b) H1
theorem pi_zipM {X : Cx} {e e2 : Expr} {ta : TA} {p pos tpos : Pos} {elts : List Expr} {kk : Nat} (hg : Gl X "zip") (hm : X.mg "zip" = none) (ha : PA X [e, e2] ta)
    (hs : starEach [e, e2] X.env = (false, eval e X.env) :: starEach [e2] X.env := by rfl) (hpl : (backTo pos (starEach [e2] X.env)).any (·.1) = false := by rfl) :
    PI X (.Tuple elts kk tpos) (.Call (.Name "zip" p) [e, e2] [] pos) (iZipM X.K ta) := by
  refine ⟨fun pins s σ H R I h => ?_⟩
  refine Call_ (ld_blt I hg hm PyProof.Rows.boot_zip (PyProof.Rows.callWith_type1 (thn (ha.run pos pins s σ H _ I h) fun us s1 ⟨vs, H1, I1, r1, q1⟩ => ?_) hs hpl))
  obtain ⟨a, b, xs, ys, ex, hqx, hqy, q⟩ := q1
  subst ex
  cases r1 with
  | cons r rr =>
    cases rr with
    | cons r' rr =>
      cases rr
      cases r
      cases r'
      have fresh5 : ∀ c, c ∈ [s1.heap.objs.size + 4, s1.heap.objs.size + 2, s1.heap.objs.size + 3, s1.heap.objs.size, s1.heap.objs.size + 1] → FpOk X pins H1 c := fun c hcm => by
        have e' : c = s1.heap.objs.size + 4 ∨ c = s1.heap.objs.size + 2 ∨ c = s1.heap.objs.size + 3 ∨ c = s1.heap.objs.size ∨ c = s1.heap.objs.size + 1 := by simpa using hcm
        have hle : s1.heap.objs.size ≤ c := by
          rcases e' with z | z | z | z | z
          · rw [z]; exact Nat.le_add_right _ _
          · rw [z]; exact Nat.le_add_right _ _
          · rw [z]; exact Nat.le_add_right _ _
          · rw [z]; exact Nat.le_refl _
          · rw [z]; exact Nat.le_add_right _ _
        exact I1.fpOk hle (I1.hok.fresh hle)
      obtain ⟨its, rv, p1, _⟩ := I1.list hqx
      obtain ⟨its2, rv2, p2, _⟩ := I1.tuple hqy
      obtain ⟨o2, ho2, _⟩ := id p2
      refine zip_begins2 (begins_list a its.toArray) (begins_tuple b its2.toArray) p1.isList p2 fun h' hz hTI hTO h1 h2 hsz hk => wpAny_pyIter_zip hz ?_
      have I2 : Inv X pins σ H1 { s1 with heap := h' } := I1.kept (t' := s1.toks) fun b o e => hk b o e
      exact ⟨s1.heap.objs.size + 4, [s1.heap.objs.size + 4, s1.heap.objs.size + 2, s1.heap.objs.size + 3, s1.heap.objs.size, s1.heap.objs.size + 1], _, _, H1, rfl, I2, turn_zipM (zip_sep2 (fun c hc => by rw [List.mem_singleton.mp hc]; exact p1.lt) (fun c hc => by rw [List.mem_singleton.mp hc]; exact Heap.lt_size ho2)), ⟨hz, hTI, ⟨_, _, hTO⟩, ⟨_, h1, rfl, rfl⟩, ⟨_, h2, rfl, rfl⟩⟩, fresh5, q⟩
/-- a loop over zip of a list and a tuple of one length -/
theorem for_zipM {K : PySem.W.Frag} {a b : Addr} {xs ys : List V} {g : TG} {tb : TS} {D : Ends} {σ : L2.St} {H : Hp} (hl : xs.length = ys.length) (Pv : Nat → L2.St → Hp → Prop) (h0 : Pv 0 σ H) (hq : ∀ i σ H, Pv i σ H → SqL K H a xs ∧ SqT K H b ys)
    (hs : ∀ (i : Nat) (x y : V) (T : Addr) (σ : L2.St) (H : Hp), xs[i]? = some x → ys[i]? = some y → Pv i σ H → H T = none → g (.ref T) σ (upd H T (.tup [x, y])) fun σ2 H2 => tb { D with nx := Pv (i + 1), ct := Pv (i + 1), bk := D.nx } σ2 H2) (hd : ∀ σ H, Pv xs.length σ H → D.nx σ H) :
    ∃ W : Nat → Nat → L2.St → Hp → Prop, (∃ m, W 0 m σ H) ∧ ∀ i m σ H, W i m σ H →
      ((ItzM K a b).stop i H ∧ D.nx σ H) ∨ ((ItzM K a b).go i H ∧ ∃ N : L2.St → Hp → Prop, (∀ σ' H', N σ' H' → ∃ m', m' < m ∧ W (i + 1) m' σ' H') ∧ ∀ v H', (ItzM K a b).yld i H v H' → g v σ H' fun σ2 H2 => tb { D with nx := N, ct := N, bk := D.nx } σ2 H2) := by
  refine ⟨fun i m σ H => m = xs.length - i ∧ i ≤ xs.length ∧ Pv i σ H, ⟨xs.length, rfl, Nat.zero_le _, h0⟩, ?_⟩
  rintro i m σ H ⟨rfl, hi, p⟩
  obtain ⟨qx, qy⟩ := hq i σ H p
  by_cases hlt : i < xs.length
  · have hx : xs[i]? = some xs[i] := List.getElem?_eq_getElem hlt
    have hlt2 : i < ys.length := by omega
    have hy : ys[i]? = some ys[i] := List.getElem?_eq_getElem hlt2
    refine .inr ⟨⟨xs, ys, _, _, qx, qy, hx, hy⟩, Pv (i + 1), fun σ' H' p' => ⟨xs.length - (i + 1), by omega, rfl, hlt, p'⟩, fun v H' y => ?_⟩
    obtain ⟨T, x', y', rfl, hT, rfl, f1, f2⟩ := y
    exact hs i x' y' T σ H (f1 xs qx) (f2 ys qy) p hT
  · have e : i = xs.length := by omega
    subst e
    exact .inl ⟨⟨xs, ys, qx, qy, rfl, hl.symm⟩, hd σ H p⟩
end Og
/-! The machine over the abstract heap; begin. -/
namespace Og
open PySem PySem.Spec L2
structure MAd where
  m : Addr
  sa : SAd
  fn : Addr
  kp : Addr
  fd : Addr
  td : Addr
def MAd.own (M : MAd) : List Addr := M.m :: M.fd :: M.td :: M.sa.own
def mf (M : MAd) (y n : Nat) : List (Str × V) := [("store", .ref M.sa.s), ("yes", vI y), ("functions", .ref M.fn), ("keeping", .bl false), ("kept", .ref M.kp), ("pair", .non), ("steps", vI n), ("found", .ref M.fd), ("todo", .ref M.td)]
/-- the machine's class -/
structure MCl (K : PySem.W.Frag) (C : Addr) : Prop where
  cl : Cls K C
  nStore : NoAttr K C "store"
  nYes : NoAttr K C "yes"
  nFn : NoAttr K C "functions"
  nKeep : NoAttr K C "keeping"
  nKept : NoAttr K C "kept"
  nPair : NoAttr K C "pair"
  nSteps : NoAttr K C "steps"
  nFound : NoAttr K C "found"
  nTodo : NoAttr K C "todo"
abbrev nk (n : Nat) : Key := Sum.inl (n : Int)
def EnvAt (own : List Addr) (H : Hp) (d : Addr) (env : List (Nat × Nat)) : Prop := d ∉ own ∧ ∃ kvs, H d = some (.dK kvs) ∧ ∀ k v, env.lookup k = some v → valV kvs (nk k) = some (vI v)
def TskAt (own : List Addr) (H : Hp) : Tsk → V → Prop
  | .ev e env, v => ∃ t d, v = .ref t ∧ H t = some (.tup [.str "eval", vI e, .ref d]) ∧ EnvAt own H d env
  | .iff a b env, v => ∃ t d, v = .ref t ∧ H t = some (.tup [.str "if", vI a, vI b, .ref d]) ∧ EnvAt own H d env
  | .doo k, v => ∃ t, v = .ref t ∧ H t = some (.tup [.str "do", .str k])
  | .call f n, v => ∃ t, v = .ref t ∧ H t = some (.tup [.str "call", vI f, vI n])
def FnAt (own : List Addr) (H : Hp) (kvs : List (Key × V)) (f : Nat) (pn : List Nat) (b : Nat) : Prop :=
  ∃ t lp, valV kvs (nk f) = some (.ref t) ∧ H t = some (.tup [.ref lp, vI b]) ∧ H lp = some (.lst (pn.map vI)) ∧ lp ∉ own
structure MachAt (w : World) (CS CM : Addr) (H : Hp) (M : MAd) (y : Nat) (fns : Fns) (A : AM) : Prop where
  ins : ∃ dx, H M.m = some (.ins CM dx (mf M y A.n))
  st : StoreAt w CS H M.sa A.st
  fd : H M.fd = some (.lst (A.fd.map vI))
  td : ∃ vs, H M.td = some (.lst vs) ∧ Paired (TskAt M.own H) A.td.reverse vs
  fn : ∃ kvs, H M.fn = some (.dK kvs) ∧ ∀ f pn b, fns.lookup f = some (pn, b) → FnAt M.own H kvs f pn b
  sep : (M.fd :: M.td :: M.sa.own).Nodup
  ms : M.m ≠ M.sa.s
section
variable {w : World} {CS CM : Addr} {H H' : Hp} {M : MAd} {y : Nat} {fns : Fns} {A : AM} {S : List Addr} {own : List Addr}
theorem EnvAt.keep {d : Addr} {env : List (Nat × Nat)} (h : EnvAt own H d env) (f : Frm S H H') (hs : ∀ b ∈ S, b ∈ own) : EnvAt own H' d env := by
  obtain ⟨h1, kvs, h2, h3⟩ := h
  exact ⟨h1, kvs, f.old _ _ h2 (fun z => h1 (hs _ z)), h3⟩
theorem TskAt.keep (f : Frm S H H') (hs : ∀ b ∈ S, b ∈ own) : ∀ {t : Tsk} {v : V}, TskAt own H t v → TskAt own H' t v
  | .ev _ _, _, ⟨t, d, e, h1, h2⟩ => ⟨t, d, e, f.fix _ _ h1 trivial, h2.keep f hs⟩
  | .iff _ _ _, _, ⟨t, d, e, h1, h2⟩ => ⟨t, d, e, f.fix _ _ h1 trivial, h2.keep f hs⟩
  | .doo _, _, ⟨t, e, h1⟩ => ⟨t, e, f.fix _ _ h1 trivial⟩
  | .call _ _, _, ⟨t, e, h1⟩ => ⟨t, e, f.fix _ _ h1 trivial⟩
theorem paired_mono {α β : Type} {R R' : α → β → Prop} (f : ∀ a b, R a b → R' a b) {l : List α} {m : List β} (h : Paired R l m) : Paired R' l m := by
  induction h with
  | nil => exact .nil
  | cons h _ ih => exact .cons (f _ _ h) ih
theorem FnAt.keep {kvs : List (Key × V)} {g : Nat} {pn : List Nat} {b : Nat} (h : FnAt own H kvs g pn b) (f : Frm S H H') (hs : ∀ b ∈ S, b ∈ own) : FnAt own H' kvs g pn b := by
  obtain ⟨t, lp, h1, h2, h3, h4⟩ := h
  exact ⟨t, lp, h1, f.fix _ _ h2 trivial, f.old _ _ h3 (fun z => h4 (hs _ z)), h4⟩
theorem MachAt.tdK (MA : MachAt w CS CM H M y fns A) (f : Frm S H H') (hs : ∀ b ∈ S, b ∈ M.own) {ts : List Tsk} {vs : List V} (h : Paired (TskAt M.own H) ts vs) : Paired (TskAt M.own H') ts vs := paired_mono (fun _ _ h => TskAt.keep f hs h) h
theorem MachAt.fnOwn (MA : MachAt w CS CM H M y fns A) : M.fn ∉ M.own := by
  obtain ⟨kvs, h, _⟩ := MA.fn
  obtain ⟨dx, hi⟩ := MA.ins
  obtain ⟨vs, ht, _⟩ := MA.td
  obtain ⟨t0, xks, szs, dps, SV⟩ := MA.st.val
  have h0 : M.fn ≠ M.m := ne_of h hi (by intro q; cases q)
  have h1 : M.fn ≠ M.fd := ne_of h MA.fd (by intro q; cases q)
  have h2 : M.fn ≠ M.td := ne_of h ht (by intro q; cases q)
  have h3 : M.fn ≠ M.sa.le := ne_of h SV.hE (by intro q; cases q)
  have h4 : M.fn ≠ M.sa.nd := ne_of h SV.hN (by intro q; cases q)
  have h5 : M.fn ≠ M.sa.ls := ne_of h SV.hS (by intro q; cases q)
  have h6 : M.fn ≠ M.sa.ld := ne_of h SV.hD (by intro q; cases q)
  simp [MAd.own, SAd.own, h0, h1, h2, h3, h4, h5, h6]
/-- the machine's parts lie apart -/
theorem MachAt.apart (MA : MachAt w CS CM H M y fns A) : M.m ∉ M.fd :: M.td :: M.sa.s :: M.sa.own ∧ M.fd ∉ M.m :: M.td :: M.sa.s :: M.sa.own ∧ M.td ∉ M.m :: M.fd :: M.sa.s :: M.sa.own ∧ M.sa.s ∉ M.own ∧ M.m ∉ M.sa.own ∧ M.fd ∉ M.sa.own ∧ M.td ∉ M.sa.own ∧ M.fd ≠ M.td := by
  obtain ⟨dx, hi⟩ := MA.ins
  obtain ⟨vs, ht, _⟩ := MA.td
  obtain ⟨dx2, hs⟩ := MA.st.ins
  obtain ⟨t0, xks, szs, dps, SV⟩ := MA.st.val
  have hnd := MA.sep
  rw [List.nodup_cons, List.nodup_cons, List.mem_cons, not_or] at hnd
  obtain ⟨⟨a1, a2⟩, a3, a4⟩ := hnd
  have so := MA.st.sOwn
  have h1 : M.m ≠ M.fd := ne_of hi MA.fd (by intro q; cases q)
  have h2 : M.m ≠ M.td := ne_of hi ht (by intro q; cases q)
  have h3 : M.m ≠ M.sa.le := ne_of hi SV.hE (by intro q; cases q)
  have h4 : M.m ≠ M.sa.nd := ne_of hi SV.hN (by intro q; cases q)
  have h5 : M.m ≠ M.sa.ls := ne_of hi SV.hS (by intro q; cases q)
  have h6 : M.m ≠ M.sa.ld := ne_of hi SV.hD (by intro q; cases q)
  have h7 : M.sa.s ≠ M.fd := ne_of hs MA.fd (by intro q; cases q)
  have h8 : M.sa.s ≠ M.td := ne_of hs ht (by intro q; cases q)
  have mo : M.m ∉ M.sa.own := by simp [SAd.own, h3, h4, h5, h6]
  refine ⟨?_, ?_, ?_, ?_, mo, a2, a3, a1⟩
  · simp only [List.mem_cons, not_or]; exact ⟨h1, h2, MA.ms, mo⟩
  · simp only [List.mem_cons, not_or]; exact ⟨h1.symm, a1, h7.symm, a2⟩
  · simp only [List.mem_cons, not_or]; exact ⟨h2.symm, fun e => a1 e.symm, h8.symm, a3⟩
  · simp only [MAd.own, List.mem_cons, not_or]; exact ⟨MA.ms.symm, h7, h8, so⟩
/-- what stays when the store's own does not change -/
theorem MachAt.stK (MA : MachAt w CS CM H M y fns A) (f : Frm S H H') (n : ∀ b ∈ S, b ∉ M.sa.s :: M.sa.own) : StoreAt w CS H' M.sa A.st := by
  refine MA.st.keep f ⟨fun z => n _ z (by simp), fun z => n _ z (by simp [SAd.own]), fun z => n _ z (by simp [SAd.own]), fun z => n _ z (by simp [SAd.own]), fun z => n _ z (by simp [SAd.own])⟩
theorem MachAt.fnK (MA : MachAt w CS CM H M y fns A) (f : Frm S H H') (hs : ∀ b ∈ S, b ∈ M.own) : ∃ kvs, H' M.fn = some (.dK kvs) ∧ ∀ f pn b, fns.lookup f = some (pn, b) → FnAt M.own H' kvs f pn b := by
  obtain ⟨kvs, h, h2⟩ := MA.fn
  exact ⟨kvs, f.old _ _ h (fun z => MA.fnOwn (hs _ z)), fun g pn b e => (h2 g pn b e).keep f hs⟩
theorem MachAt.same (MA : MachAt w CS CM H M y fns A) (f : Same H H') : MachAt w CS CM H' M y fns A := by
  have F : Frm [] H H' := Frm.of_same f
  obtain ⟨dx, hi⟩ := MA.ins
  obtain ⟨vs, ht, hp⟩ := MA.td
  exact ⟨⟨dx, f _ _ hi⟩, MA.stK F (by simp), f _ _ MA.fd, ⟨vs, f _ _ ht, MA.tdK F (by simp) hp⟩, MA.fnK F (by simp), MA.sep, MA.ms⟩
/-- a task is put on top -/
theorem MachAt.push (MA : MachAt w CS CM H M y fns A) {vs : List V} {t : Tsk} {v : V} (ht : H M.td = some (.lst vs)) (hp : Paired (TskAt M.own H) A.td.reverse vs) (h : TskAt M.own H t v) :
    MachAt w CS CM (upd H M.td (.lst (vs ++ [v]))) M y fns { A with td := t :: A.td } ∧ Frm M.own H (upd H M.td (.lst (vs ++ [v]))) := by
  obtain ⟨a1, a2, a3, a4, a5, a6, a7, a8⟩ := MA.apart
  have F : Frm [M.td] H (upd H M.td (.lst (vs ++ [v]))) := Frm.upd (by simp) ht (fun z => z)
  have hs : ∀ b ∈ [M.td], b ∈ M.own := fun b hb => by rw [List.mem_singleton.mp hb]; simp [MAd.own]
  obtain ⟨dx, hi⟩ := MA.ins
  refine ⟨⟨⟨dx, (upd_ne (fun e => a1 (by simp [e]))).trans hi⟩, MA.stK F (fun b hb => by rw [List.mem_singleton.mp hb]; intro z; exact a3 (by rcases List.mem_cons.mp z with z | z <;> simp [z])), (upd_ne a8).trans MA.fd, ⟨_, upd_same, ?_⟩, MA.fnK F hs, MA.sep, MA.ms⟩, F.mono hs⟩
  show Paired _ (t :: A.td).reverse _
  rw [List.reverse_cons]
  exact paired_app (MA.tdK F hs hp) (.cons (TskAt.keep F hs h) .nil)
theorem MachAt.pop (MA : MachAt w CS CM H M y fns A) {vs : List V} {t : Tsk} {r : List Tsk} (e : A.td = t :: r) (ht : H M.td = some (.lst vs)) (hp : Paired (TskAt M.own H) A.td.reverse vs) :
    ∃ us v, vs = us ++ [v] ∧ TskAt M.own H t v ∧ MachAt w CS CM (upd H M.td (.lst us)) M y fns { A with td := r } ∧ Frm M.own H (upd H M.td (.lst us)) := by
  obtain ⟨a1, a2, a3, a4, a5, a6, a7, a8⟩ := MA.apart
  rw [e, List.reverse_cons] at hp
  obtain ⟨us, vl, ev, h1, h2⟩ : ∃ us vl, vs = us ++ vl ∧ Paired (TskAt M.own H) r.reverse us ∧ Paired (TskAt M.own H) [t] vl := by
    clear ht
    generalize r.reverse = rr at hp ⊢
    induction rr generalizing vs with
    | nil => exact ⟨[], vs, rfl, .nil, hp⟩
    | cons x rr ih =>
      cases hp with
      | cons h t =>
        obtain ⟨us, vl, ev, h1, h2⟩ := ih t
        exact ⟨_ :: us, vl, by rw [ev]; rfl, .cons h h1, h2⟩
  cases h2 with
  | cons h2 hn =>
    cases hn
    rename_i v
    have F : Frm [M.td] H (upd H M.td (.lst us)) := Frm.upd (by simp) ht (fun z => z)
    have hs : ∀ b ∈ [M.td], b ∈ M.own := fun b hb => by rw [List.mem_singleton.mp hb]; simp [MAd.own]
    obtain ⟨dx, hi⟩ := MA.ins
    exact ⟨us, v, ev, h2, ⟨⟨dx, (upd_ne (fun e => a1 (by simp [e]))).trans hi⟩, MA.stK F (fun b hb => by rw [List.mem_singleton.mp hb]; intro z; exact a3 (by rcases List.mem_cons.mp z with z | z <;> simp [z])), (upd_ne a8).trans MA.fd, ⟨us, upd_same, MA.tdK F hs h1⟩, MA.fnK F hs, MA.sep, MA.ms⟩, F.mono hs⟩
/-- the found numbers are changed -/
theorem MachAt.setF (MA : MachAt w CS CM H M y fns A) (fd' : List Nat) : MachAt w CS CM (upd H M.fd (.lst (fd'.map vI))) M y fns { A with fd := fd' } ∧ Frm M.own H (upd H M.fd (.lst (fd'.map vI))) := by
  obtain ⟨a1, a2, a3, a4, a5, a6, a7, a8⟩ := MA.apart
  have F : Frm [M.fd] H (upd H M.fd (.lst (fd'.map vI))) := Frm.upd (by simp) MA.fd (fun z => z)
  have hs : ∀ b ∈ [M.fd], b ∈ M.own := fun b hb => by rw [List.mem_singleton.mp hb]; simp [MAd.own]
  obtain ⟨dx, hi⟩ := MA.ins
  obtain ⟨vs, ht, hp⟩ := MA.td
  exact ⟨⟨⟨dx, (upd_ne (fun e => a1 (by simp [e]))).trans hi⟩, MA.stK F (fun b hb => by rw [List.mem_singleton.mp hb]; intro z; exact a2 (by rcases List.mem_cons.mp z with z | z <;> simp [z])), upd_same, ⟨vs, (upd_ne a8.symm).trans ht, MA.tdK F hs hp⟩, MA.fnK F hs, MA.sep, MA.ms⟩, F.mono hs⟩
/-- the steps are changed -/
theorem MachAt.setN (MA : MachAt w CS CM H M y fns A) {dx : Addr} (hi : H M.m = some (.ins CM dx (mf M y A.n))) (n : Nat) : MachAt w CS CM (upd H M.m (.ins CM dx (mf M y n))) M y fns { A with n := n } ∧ Frm M.own H (upd H M.m (.ins CM dx (mf M y n))) := by
  obtain ⟨a1, a2, a3, a4, a5, a6, a7, a8⟩ := MA.apart
  have F : Frm [M.m] H (upd H M.m (.ins CM dx (mf M y n))) := Frm.upd (by simp) hi (fun z => z)
  have hs : ∀ b ∈ [M.m], b ∈ M.own := fun b hb => by rw [List.mem_singleton.mp hb]; simp [MAd.own]
  obtain ⟨vs, ht, hp⟩ := MA.td
  exact ⟨⟨⟨dx, upd_same⟩, MA.stK F (fun b hb => by rw [List.mem_singleton.mp hb]; intro z; exact a1 (by rcases List.mem_cons.mp z with z | z <;> simp [z])), (upd_ne (fun e => a1 (by simp [e]))).trans MA.fd, ⟨vs, (upd_ne (fun e => a1 (by simp [e]))).trans ht, MA.tdK F hs hp⟩, MA.fnK F hs, MA.sep, MA.ms⟩, F.mono hs⟩
/-- the store has grown -/
theorem MachAt.setS (MA : MachAt w CS CM H M y fns A) {st' : Sto} (h : StoreAt w CS H' M.sa st') (F : Frm M.sa.own H H') : MachAt w CS CM H' M y fns { A with st := st' } ∧ Frm M.own H H' := by
  obtain ⟨a1, a2, a3, a4, a5, a6, a7, a8⟩ := MA.apart
  have hs : ∀ b ∈ M.sa.own, b ∈ M.own := fun b hb => by simp [MAd.own, hb]
  obtain ⟨dx, hi⟩ := MA.ins
  obtain ⟨vs, ht, hp⟩ := MA.td
  exact ⟨⟨⟨dx, F.old _ _ hi a5⟩, h, F.old _ _ MA.fd a6, ⟨vs, F.old _ _ ht a7, MA.tdK F hs hp⟩, MA.fnK F hs, MA.sep, MA.ms⟩, F.mono hs⟩
theorem MachAt.notOwn (MA : MachAt w CS CM H M y fns A) {p : Addr} (h : H p = none) : p ∉ M.own := by
  obtain ⟨dx, hi⟩ := MA.ins
  obtain ⟨vs, ht, _⟩ := MA.td
  have h1 : p ≠ M.m := (ne_of_none hi h).symm
  have h2 : p ≠ M.fd := (ne_of_none MA.fd h).symm
  have h3 : p ≠ M.td := (ne_of_none ht h).symm
  have h4 : p ∉ M.sa.own := fun z => by
    obtain ⟨o, ho, _⟩ := MA.st.some p (List.mem_cons_of_mem _ z)
    rw [h] at ho; cases ho
  simp [MAd.own, h1, h2, h3, h4]
end
/-! ### environments as dicts -/
def envK (env : List (Nat × Nat)) : List (Key × V) := env.map fun p => (nk p.1, vI p.2)
theorem nk_inj {a b : Nat} : nk a = nk b ↔ a = b := ⟨fun h => by injection h with h; exact Int.ofNat.inj h, fun h => by rw [h]⟩
theorem valV_env (k : Nat) : ∀ env : List (Nat × Nat), valV (envK env) (nk k) = (env.lookup k).map vI
  | [] => rfl
  | (a, b) :: r => by
    have ih := valV_env k r
    unfold valV envK at *
    rw [List.map_cons, List.find?_cons, List.lookup_cons]
    by_cases h : k = a
    · subst h
      simp
    · have e1 : decide (nk a = nk k) = false := decide_eq_false (fun z => h (nk_inj.mp z).symm)
      have e2 : (k == a) = false := beq_eq_false_iff_ne.mpr h
      rw [e1, e2]
      exact ih
theorem putK_env {k v : Nat} {env : List (Nat × Nat)} (h : k ∉ env.map (·.1)) : putK (envK env) (nk k) (vI v) = envK (env ++ [(k, v)]) := by
  unfold putK
  rw [if_neg]
  · unfold envK
    rw [List.map_append] <;> rfl
  · intro z
    obtain ⟨p, hp, e⟩ := List.any_eq_true.mp z
    obtain ⟨q, hq, rfl⟩ := List.mem_map.mp hp
    have := nk_inj.mp (of_decide_eq_true e)
    exact h (List.mem_map.mpr ⟨q, hq, this⟩)
section
variable {P : Program} {w : World} {K : PySem.W.Frag} {mg : Str → Option Value} {base : Heap} {CS CM : Addr}
/-! ### begin -/
abbrev sBegin : Stmt := inClass (top 27) 1
abbrev nBegin : List Str := ["self", "name", "numbers", "parameters", "body", "call", "names", "parameter", "number"]
def spBegin (w : World) (K : PySem.W.Frag) (CS CM : Addr) : Sp := fun vs H Q _ => ∃ (M : MAd) (y : Nat) (fns : Fns) (A : AM) (f b : Nat) (pn args : List Nat) (t : Addr), vs = [.ref M.m, vI f, .ref t] ∧ MachAt w CS CM H M y fns A ∧ SqT K H t (args.map vI) ∧ fns.lookup f = some (pn, b) ∧ pn.length = args.length ∧ pn.Nodup ∧ A.td.length ≤ 10000000 ∧ pn.length ≤ 10000000 ∧
  ∀ H', MachAt w CS CM H' M y fns { A with td := .ev b (pn.zip args) :: A.td } → Frm M.own H H' → Q .non H'
theorem scBegin : FnScope nBegin ["self", "name", "numbers"] (defScope sBegin) := ⟨rfl, rfl, rfl, by decide +kernel, rfl, by decide +kernel, by decide +kernel⟩
theorem ok_begin (B : Blt mg) (T : MCl K CM) (g : MDef K CM "begin" "Machine.begin" sBegin []) : C8.Met P w K mg base 1 CM "begin" (spBegin w K CS CM) [] := by
  refine met_of g scBegin (fun _ _ _ _ _ _ us hl => match us, hl with | [_, _, _], _ => rfl) (fun vs H Q E h => ?_) (fun f cdv A outer s H vs Q E hr h => ?_)
  · obtain ⟨M, y, fns, A, f, b, pn, args, t, rfl, _⟩ := h; rfl
  obtain ⟨M, y, fns, A, f, b, pn, args, t, rfl, MA, hT, hf, hlen, hnd, hl, hpl, k⟩ := h
  have nd := scBegin.nd
  have hu := hu_of hr
  refine ⟨_, (pss_cons (ps_asg (pe_dget hu (pe_fld (pv 0) rfl) (pv 1) (fun _ _ => rfl)) (pg_tup rfl (pgs_cons (pg_name (i := 3) nd rfl (.inl rfl)) (pgs_cons (pg_name (i := 4) nd rfl (.inl rfl)) pgs_nil))))
    (pss_cons (ps_if (pt_val (pe_fld (pv 0) rfl)) pss_never pss_nil)
    (pss_cons (ps_set (i := 6) nd rfl (.inl rfl) pe_dnewK)
    (pss_cons (ps_for PassesOwn.never rfl (pi_zipM rfl B.zip (pa_cons (pv 3) (pa_cons (pv 2) pa_nil))) (pg_tup rfl (pgs_cons (pg_name (i := 7) nd rfl (.inl rfl)) (pgs_cons (pg_name (i := 8) nd rfl (.inl rfl)) pgs_nil))) (pss_one (ps_dput hu (pv 6) (pv 7) (pv 8) rfl)))
    (pss_one (ps_expr (pe_bm PySem.F.plainAttrs_list PySem.F.slot_list_append PySem.F.type_list_append mt_append (pe_fld (pv 0) rfl) (pa_cons (pe_tup (pa_cons pe_str (pa_cons (pv 4) (pa_cons (pv 6) pa_nil)))) pa_nil)))))))), ?_⟩
  obtain ⟨dx, hi⟩ := MA.ins
  obtain ⟨kvs, hfn, hall⟩ := MA.fn
  obtain ⟨tf, lp, hv, htf, hlp, hlo⟩ := hall f pn b hf
  refine ⟨_, rfl, _, _, _, _, _, rfl, hi, T.cl, T.nFn, rfl, _, rfl, M.fn, .ref tf, rfl, (by rw [← hv]; exact DGet.k (k := nk f) hfn), ?_⟩
  refine ⟨tf, _, rfl, SqT.of htf, rfl, _, _, rfl, _, _, rfl, rfl, ?_⟩
  refine ⟨_, rfl, _, _, _, _, _, rfl, hi, T.cl, T.nKeep, rfl, _, rfl, iteF ?_⟩
  refine fun d hd => ?_
  have hS0 : Same H (upd H d (.dK [])) := Same.new hd
  refine ⟨_, rfl, _, rfl, lp, t, _, _, rfl, SqL.of (hS0 _ _ hlp), SqT.keep hT (fun b o h _ => hS0 _ _ h), ?_⟩
  refine for_zipM (K := K) (a := lp) (b := t) (xs := pn.map vI) (ys := args.map vI) (by simp [hlen]) (fun i σ H' => ∃ o1 o2, σ = [some (.ref M.m), some (vI f), some (.ref t), some (.ref lp), some (vI b), none, some (.ref d), o1, o2] ∧ Same H H' ∧ H' d = some (.dK (envK ((pn.zip args).take i))))
    ⟨none, none, rfl, hS0, upd_same⟩ (fun i σ H' h => ?_) ?_ ?_
  · obtain ⟨o1, o2, _, h1, _⟩ := h
    exact ⟨SqL.of (h1 _ _ hlp), SqT.keep hT (fun b o h _ => h1 _ _ h)⟩
  · rintro i x' z' T' σ H' hx hz ⟨o1, o2, rfl, hS, hE⟩ hT'
    rw [List.getElem?_map] at hx hz
    obtain ⟨p, hp, rfl⟩ := Option.map_eq_some_iff.mp hx
    obtain ⟨a, ha, rfl⟩ := Option.map_eq_some_iff.mp hz
    have hS' : Same H' (upd H' T' (.tup [vI p, vI a])) := Same.new hT'
    refine ⟨T', _, rfl, SqT.of upd_same, rfl, _, _, rfl, _, _, rfl, rfl, ?_⟩
    have e1 : (pn.zip args).take (i + 1) = (pn.zip args).take i ++ [(p, a)] := by
      rw [List.take_add_one, (List.getElem?_zip_eq_some (z := (p, a))).mpr ⟨hp, ha⟩] <;> rfl
    have hne : p ∉ ((pn.zip args).take i).map (·.1) := fun z => by
      rw [List.map_take, List.map_fst_zip (by omega)] at z
      obtain ⟨j, hj, ej⟩ := List.mem_take_iff_getElem.mp z
      have hpi := (List.getElem?_eq_some_iff.mp hp)
      obtain ⟨hi', ei⟩ := hpi
      have : j = i := (List.getElem_inj hnd).mp (ej.trans ei.symm)
      omega
    refine ⟨_, rfl, _, rfl, _, rfl, d, _, rfl, DPut.k (k := nk p) (hS' _ _ hE) (by unfold envK; rw [List.length_map, List.length_take]; exact small7 (by rw [List.length_zip]; omega)), ?_⟩
    refine ⟨_, _, rfl, fun c o hc => ?_, ?_⟩
    · rw [upd_ne (ne_of_none hc hd)]
      exact hS' _ _ (hS _ _ hc)
    · rw [upd_same, putK_env hne, e1]
  · rintro σ H' ⟨o1, o2, rfl, hS, hE⟩
    rw [List.length_map, List.take_of_length_le (by rw [List.length_zip]; omega)] at hE
    have MA' := MA.same hS
    obtain ⟨dx', hi'⟩ := MA'.ins
    obtain ⟨vs, ht, hp⟩ := MA'.td
    have hdo : d ∉ M.own := MA.notOwn hd
    refine ⟨_, rfl, _, _, _, _, _, rfl, hi', T.cl, T.nTodo, rfl, .inl ⟨rfl, _, SqL.of ht⟩, ?_⟩
    refine ⟨_, rfl, _, rfl, (by show 3 ≤ sizeLine; decide), fun p hp0 => ?_⟩
    have hS2 : Same H' (upd H' p (.tup [.str "eval", vI b, .ref d])) := Same.new hp0
    have MA2 := MA'.same hS2
    have tp : upd H' p (.tup [.str "eval", vI b, .ref d]) p = some (.tup [.str "eval", vI b, .ref d]) := upd_same
    have e2 := hS2 _ _ hE
    have hS3 := hS.trans hS2
    have ht2 := hS2 _ _ ht
    have hp2 := MA'.tdK (Frm.of_same (S := []) hS2) (by simp) hp
    generalize upd H' p (.tup [.str "eval", vI b, .ref d]) = H2 at MA2 tp e2 hS3 ht2 hp2 ⊢
    have hlv : vs.length ≤ 10000000 := by have := hp.length; rw [List.length_reverse] at this; omega
    obtain ⟨MA3, F3⟩ := MA2.push ht2 hp2 (t := .ev b (pn.zip args)) (v := .ref p) ⟨p, d, rfl, tp, hdo, _, e2, fun k v h => by rw [valV_env, h]; rfl⟩
    refine ⟨M.td, _, _, rfl, rfl, ht2, small7 hlv, ?_⟩
    exact k _ MA3 ((Frm.of_same hS3).trans F3)
end
end Og
/-! The machine's do. -/
namespace Og
open PySem PySem.Spec L2
section
variable {P : Program} {w : World} {K : PySem.W.Frag} {mg : Str → Option Value} {base : Heap} {CS CM : Addr}
abbrev sDo : Stmt := inClass (top 27) 5
abbrev nDo : List Str := ["self", "word", "second", "first"]
/-- what do does to the found numbers and the store -/
inductive DoA (y : Nat) (st : Sto) : Str → List Nat → Sto → List Nat → Prop
  | head {fd a} (ha : a < st.length) : DoA y st "head" (fd ++ [a]) st (fd ++ [firstN st a])
  | tail {fd a} (ha : a < st.length) : DoA y st "tail" (fd ++ [a]) st (fd ++ [restN st a])
  | word {fd a} (ha : a < st.length) : DoA y st "word" (fd ++ [a]) st (fd ++ [wordN y st a])
  | same {fd a b} (ha : a < st.length) (hb : b < st.length) : DoA y st "same" (fd ++ [a, b]) st (fd ++ [sameN y a b])
  | join {fd a b} (ha : a < st.length) (hb : b < st.length) : DoA y st "join" (fd ++ [a, b]) (joinN st a b).1 (fd ++ [(joinN st a b).2])
def spDo (w : World) (CS CM : Addr) : Sp := fun vs H Q _ => ∃ (M : MAd) (y : Nat) (fns : Fns) (A : AM) (k : Str) (st' : Sto) (fd' : List Nat), vs = [.ref M.m, .str k] ∧ MachAt w CS CM H M y fns A ∧ DoA y A.st k A.fd st' fd' ∧ A.st.length ≤ 10000000 ∧ A.fd.length ≤ 10000000 ∧
  ∀ H', MachAt w CS CM H' M y fns { A with st := st', fd := fd' } → Frm M.own H H' → Q .non H'
theorem scDo : FnScope nDo ["self", "word"] (defScope sDo) := ⟨rfl, rfl, rfl, by decide +kernel, rfl, by decide +kernel, by decide +kernel⟩
theorem map_snoc (fd : List Nat) (a : Nat) : (fd ++ [a]).map vI = fd.map vI ++ [vI a] := by simp
theorem dropLast_snoc' (fd : List Nat) (a : Nat) : ((fd ++ [a]).map vI).dropLast = fd.map vI := by rw [map_snoc, List.dropLast_concat]
theorem MachAt.app {H : Hp} {M : MAd} {y : Nat} {fns : Fns} {A : AM} (MA : MachAt w CS CM H M y fns A) (hl : A.fd.length ≤ 10000000) (x : Nat) {Q : VK} (q : ∀ H2, MachAt w CS CM H2 M y fns { A with fd := A.fd ++ [x] } → Frm M.own H H2 → Q .non H2) : rAppend (.ref M.fd) [vI x] H Q := by
  obtain ⟨MA2, F2⟩ := MA.setF (A.fd ++ [x])
  rw [map_snoc] at MA2 F2
  exact ⟨M.fd, _, _, rfl, rfl, MA.fd, (by rw [List.length_map]; exact small7 hl), q _ MA2 F2⟩
theorem MachAt.popF {H : Hp} {M : MAd} {y : Nat} {fns : Fns} {A : AM} (MA : MachAt w CS CM H M y fns A) {fd : List Nat} {a : Nat} (e : A.fd = fd ++ [a]) {Q : VK} (q : ∀ H2, MachAt w CS CM H2 M y fns { A with fd := fd } → Frm M.own H H2 → Q (vI a) H2) : rPop (.ref M.fd) [] H Q := by
  obtain ⟨MA2, F2⟩ := MA.setF fd
  have h := MA.fd
  rw [e, map_snoc] at h
  refine ⟨M.fd, _, _, rfl, rfl, h, (popR _ _).1, ?_⟩
  rw [(popR _ _).2]
  exact q _ MA2 F2
theorem ok_do (B : Blt mg) (N : Nums mg) (S : SCl K CS) (T : MCl K CM) (c_is_word : C8.Met P w K mg base 1 CS "is_word" (spSIsWord w CS) []) (c_first : C8.Met P w K mg base 2 CS "first" (spFirst w CS firstN) []) (c_rest : C8.Met P w K mg base 2 CS "rest" (spFirst w CS restN) [])
    (c_pair_up : C8.Met P w K mg base 2 CS "pair_up" (spPairUp w CS) []) (g : MDef K CM "do" "Machine.do" sDo []) : C8.Met P w K mg base 3 CM "do" (spDo w CS CM) [] := by
  refine met_of g scDo (fun _ _ _ _ _ _ us hl => match us, hl with | [_, _], _ => rfl) (fun vs H Q E h => ?_) (fun f cdv A outer s H vs Q E hr h => ?_)
  · obtain ⟨M, y, fns, A, k, st', fd', rfl, _⟩ := h; rfl
  obtain ⟨M, y, fns, A, kw, st', fd', rfl, MA, hD, hl, hfl, k⟩ := h
  have nd := scDo.nd
  refine ⟨_, (pss_cons (ps_set (i := 2) nd rfl (.inl rfl) (pe_bm0 PySem.F.plainAttrs_list PySem.F.slot_list_pop PySem.F.type_list_pop mt_pop (pe_fld (pv 0) rfl)))
    (pss_one (ps_if (pt_cmpR op_eq (pv 1) pe_str (nomark _)) (pss_one (ps_expr (pe_bm PySem.F.plainAttrs_list PySem.F.slot_list_append PySem.F.type_list_append mt_append (pe_fld (pv 0) rfl) (pa_cons (C8.pe_mt c_first hr (by decide) (pe_fld (pv 0) rfl) (pa_cons (pv 2) pa_nil)) pa_nil)))) (pss_one (ps_if (pt_cmpR op_eq (pv 1) pe_str (nomark _)) (pss_one (ps_expr (pe_bm PySem.F.plainAttrs_list PySem.F.slot_list_append PySem.F.type_list_append mt_append (pe_fld (pv 0) rfl) (pa_cons (C8.pe_mt c_rest hr (by decide) (pe_fld (pv 0) rfl) (pa_cons (pv 2) pa_nil)) pa_nil)))) (pss_one (ps_if (pt_cmpR op_eq (pv 1) pe_str (nomark _)) (pss_one (ps_expr (pe_bm PySem.F.plainAttrs_list PySem.F.slot_list_append PySem.F.type_list_append mt_append (pe_fld (pv 0) rfl) (pa_cons (pe_ifExp (PW.pt (pw_and (pt_cmpR op_ne (pv 2) (C8.pe_gc (v := .int 0) rfl (cstI N.empty)) (nomark _)) (pw_and1 (pt_val (C8.pe_mt c_is_word hr (by decide) (pe_fld (pv 0) rfl) (pa_cons (pv 2) pa_nil)))))) (pe_fld (pv 0) rfl) (C8.pe_gc (v := .int 0) rfl (cstI N.empty))) pa_nil)))) (pss_cons (ps_set (i := 3) nd rfl (.inl rfl) (pe_bm0 PySem.F.plainAttrs_list PySem.F.slot_list_pop PySem.F.type_list_pop mt_pop (pe_fld (pv 0) rfl)))
    (pss_one (ps_if (pt_cmpR op_eq (pv 1) pe_str (nomark _)) (pss_one (ps_expr (pe_bm PySem.F.plainAttrs_list PySem.F.slot_list_append PySem.F.type_list_append mt_append (pe_fld (pv 0) rfl) (pa_cons (pe_ifExp (pt_cmpR op_eq (pv 3) (pv 2) (nomark _)) (pe_fld (pv 0) rfl) (C8.pe_gc (v := .int 0) rfl (cstI N.empty))) pa_nil)))) (pss_one (ps_expr (pe_bm PySem.F.plainAttrs_list PySem.F.slot_list_append PySem.F.type_list_append mt_append (pe_fld (pv 0) rfl) (pa_cons (C8.pe_mt c_pair_up hr (by decide) (pe_fld (pv 0) rfl) (pa_cons (pv 3) (pa_cons (pv 2) pa_nil))) pa_nil)))))))))))))), ?_⟩
  obtain ⟨dx, hi⟩ := MA.ins
  cases A with
  | mk st fd td n =>
  cases hD with
  | @head fd a ha =>
    refine ⟨_, rfl, _, _, _, _, _, rfl, hi, T.cl, T.nFound, rfl, .inl ⟨rfl, _, SqL.of MA.fd⟩, MA.popF rfl fun H1 MA1 F1 => ?_⟩
    obtain ⟨dx1, hi1⟩ := MA1.ins
    refine ⟨_, rfl, rfl, _, rfl, iteT ?_⟩
    refine ⟨_, rfl, _, _, _, _, _, rfl, hi1, T.cl, T.nFound, rfl, .inl ⟨rfl, _, SqL.of MA1.fd⟩, ?_⟩
    refine ⟨_, rfl, _, _, _, _, _, rfl, hi1, T.cl, T.nStore, rfl, ?_⟩
    obtain ⟨dx2, hi2⟩ := MA1.st.ins
    refine ⟨M.sa.s, dx2, _, rfl, hi2, rfl, _, rfl, M.sa, st, a, rfl, MA1.st, ha, ?_⟩
    exact MA1.app (by simp at hfl ⊢; omega) _ fun H2 MA2 F2 => k H2 MA2 (F1.trans F2)
  | @tail fd a ha =>
    refine ⟨_, rfl, _, _, _, _, _, rfl, hi, T.cl, T.nFound, rfl, .inl ⟨rfl, _, SqL.of MA.fd⟩, MA.popF rfl fun H1 MA1 F1 => ?_⟩
    obtain ⟨dx1, hi1⟩ := MA1.ins
    refine ⟨_, rfl, rfl, _, rfl, iteF ⟨_, rfl, rfl, _, rfl, iteT ?_⟩⟩
    refine ⟨_, rfl, _, _, _, _, _, rfl, hi1, T.cl, T.nFound, rfl, .inl ⟨rfl, _, SqL.of MA1.fd⟩, ?_⟩
    refine ⟨_, rfl, _, _, _, _, _, rfl, hi1, T.cl, T.nStore, rfl, ?_⟩
    obtain ⟨dx2, hi2⟩ := MA1.st.ins
    refine ⟨M.sa.s, dx2, _, rfl, hi2, rfl, _, rfl, M.sa, st, a, rfl, MA1.st, ha, ?_⟩
    exact MA1.app (by simp at hfl ⊢; omega) _ fun H2 MA2 F2 => k H2 MA2 (F1.trans F2)
  | @word fd a ha =>
    refine ⟨_, rfl, _, _, _, _, _, rfl, hi, T.cl, T.nFound, rfl, .inl ⟨rfl, _, SqL.of MA.fd⟩, MA.popF rfl fun H1 MA1 F1 => ?_⟩
    obtain ⟨dx1, hi1⟩ := MA1.ins
    refine ⟨_, rfl, rfl, _, rfl, iteF ⟨_, rfl, rfl, _, rfl, iteF ⟨_, rfl, rfl, _, rfl, iteT ?_⟩⟩⟩
    refine ⟨_, rfl, _, _, _, _, _, rfl, hi1, T.cl, T.nFound, rfl, .inl ⟨rfl, _, SqL.of MA1.fd⟩, ?_⟩
    obtain ⟨dx2, hi2⟩ := MA1.st.ins
    refine ⟨_, rfl, rfl, _, rfl, ?_⟩
    rw [dec0]
    by_cases h0 : a = 0
    · subst h0
      refine iteF (iteF ?_)
      have e0 : wordN y st 0 = 0 := by unfold wordN; rw [MA.st.wf.z]
      rw [e0] at k
      exact MA1.app (by simp at hfl ⊢; omega) _ fun H2 MA2 F2 => k H2 MA2 (F1.trans F2)
    · rw [decide_eq_false h0]
      refine iteT ⟨_, rfl, _, _, _, _, _, rfl, hi1, T.cl, T.nStore, rfl, M.sa.s, dx2, _, rfl, hi2, rfl, _, rfl, M.sa, st, a, rfl, MA1.st, ha, _, rfl, ?_⟩
      obtain ⟨e, he⟩ := get_lt ha
      rw [isWd_of he]
      have e1 : wordN y st a = if entWd e = true then y else 0 := by unfold wordN; rw [he]; cases e <;> rfl
      rw [e1] at k
      cases e with
      | wd x =>
        refine iteT ?_
        exact ⟨_, rfl, _, _, _, _, _, rfl, hi1, T.cl, T.nYes, rfl, MA1.app (by simp at hfl ⊢; omega) _ fun H2 MA2 F2 => k H2 MA2 (F1.trans F2)⟩
      | nil =>
        refine iteF ?_
        exact MA1.app (by simp at hfl ⊢; omega) _ fun H2 MA2 F2 => k H2 MA2 (F1.trans F2)
      | pr i j =>
        refine iteF ?_
        exact MA1.app (by simp at hfl ⊢; omega) _ fun H2 MA2 F2 => k H2 MA2 (F1.trans F2)
  | @same fd a b ha hb =>
    refine ⟨_, rfl, _, _, _, _, _, rfl, hi, T.cl, T.nFound, rfl, .inl ⟨rfl, _, SqL.of MA.fd⟩, MA.popF (fd := fd ++ [a]) (a := b) (by simp) fun H1 MA1 F1 => ?_⟩
    obtain ⟨dx1, hi1⟩ := MA1.ins
    refine ⟨_, rfl, rfl, _, rfl, iteF ⟨_, rfl, rfl, _, rfl, iteF ⟨_, rfl, rfl, _, rfl, iteF ?_⟩⟩⟩
    refine ⟨_, rfl, _, _, _, _, _, rfl, hi1, T.cl, T.nFound, rfl, .inl ⟨rfl, _, SqL.of MA1.fd⟩, MA1.popF rfl fun H2 MA2 F2 => ?_⟩
    obtain ⟨dx2, hi2⟩ := MA2.ins
    refine ⟨_, rfl, rfl, _, rfl, iteT ?_⟩
    refine ⟨_, rfl, _, _, _, _, _, rfl, hi2, T.cl, T.nFound, rfl, .inl ⟨rfl, _, SqL.of MA2.fd⟩, ?_⟩
    refine ⟨_, rfl, _, rfl, rfl, _, rfl, ?_⟩
    have e1 : decide (vI a = vI b) = decide (a = b) := by
      by_cases h : a = b
      · subst h; simp
      · rw [decide_eq_false h, decide_eq_false (fun z => h (by injection z with z; exact Int.ofNat.inj z))]
    rw [e1]
    have hl2 : fd.length ≤ 10000000 := by simp at hfl; omega
    by_cases h : a = b
    · have e2 : sameN y a b = y := if_pos h
      rw [decide_eq_true h]
      rw [e2] at k
      exact iteT ⟨_, rfl, _, _, _, _, _, rfl, hi2, T.cl, T.nYes, rfl, MA2.app hl2 _ fun H3 MA3 F3 => k H3 MA3 (F1.trans (F2.trans F3))⟩
    · have e2 : sameN y a b = 0 := if_neg h
      rw [decide_eq_false h]
      rw [e2] at k
      exact iteF (MA2.app hl2 _ fun H3 MA3 F3 => k H3 MA3 (F1.trans (F2.trans F3)))
  | @join fd a b ha hb =>
    refine ⟨_, rfl, _, _, _, _, _, rfl, hi, T.cl, T.nFound, rfl, .inl ⟨rfl, _, SqL.of MA.fd⟩, MA.popF (fd := fd ++ [a]) (a := b) (by simp) fun H1 MA1 F1 => ?_⟩
    obtain ⟨dx1, hi1⟩ := MA1.ins
    refine ⟨_, rfl, rfl, _, rfl, iteF ⟨_, rfl, rfl, _, rfl, iteF ⟨_, rfl, rfl, _, rfl, iteF ?_⟩⟩⟩
    refine ⟨_, rfl, _, _, _, _, _, rfl, hi1, T.cl, T.nFound, rfl, .inl ⟨rfl, _, SqL.of MA1.fd⟩, MA1.popF rfl fun H2 MA2 F2 => ?_⟩
    obtain ⟨dx2, hi2⟩ := MA2.ins
    refine ⟨_, rfl, rfl, _, rfl, iteF ?_⟩
    refine ⟨_, rfl, _, _, _, _, _, rfl, hi2, T.cl, T.nFound, rfl, .inl ⟨rfl, _, SqL.of MA2.fd⟩, ?_⟩
    obtain ⟨dx3, hi3⟩ := MA2.st.ins
    refine ⟨_, rfl, _, _, _, _, _, rfl, hi2, T.cl, T.nStore, rfl, M.sa.s, dx3, _, rfl, hi3, rfl, _, rfl, _, rfl, M.sa, st, a, b, rfl, MA2.st, ha, hb, hl, fun H3 SA3 F3 => ?_⟩
    obtain ⟨MA3, F3'⟩ := MA2.setS SA3 F3
    exact MA3.app (by simp at hfl ⊢; omega) _ fun H4 MA4 F4 => k H4 MA4 (F1.trans (F2.trans (F3'.trans F4)))
end
end Og
/-! The machine's evaluate. -/
namespace Og
open PySem PySem.Spec L2
/-- PLAIN -/
structure PlainAt (K : PySem.W.Frag) (mg : Str → Option Value) (aP : Addr) : Prop where
  mg : ∃ u, mg "PLAIN" = some u ∧ RelV (.ref aP) u
  at_ : ∀ H : Hp, SqT K H aP (plainW.map V.str)
section
variable {P : Program} {w : World} {K : PySem.W.Frag} {mg : Str → Option Value} {base : Heap} {CS CM aP : Addr}
abbrev sEvaluate : Stmt := inClass (top 27) 4
abbrev nEvaluate : List Str := ["self", "expression", "names", "items", "word", "parts", "part"]
/-- what evaluate adds to the found numbers, what to the tasks -/
inductive EvA (st : Sto) (e : Nat) (env : List (Nat × Nat)) : List Nat → List Tsk → Prop
  | var {x v} (he : st[e]? = some (.wd x)) (hv : env.lookup e = some v) : EvA st e env [v] []
  | quo {k v} (he : Its st e [k, v]) (hk : st[k]? = some (.wd "quote")) : EvA st e env [v] []
  | iff {k t a b} (he : Its st e [k, t, a, b]) (hk : st[k]? = some (.wd "if")) : EvA st e env [] [.ev t env, .iff a b env]
  | prim {k ps x} (he : Its st e (k :: ps)) (hk : st[k]? = some (.wd x)) (hx : x ∈ plainW) (h5 : ps.length ≤ 5) : EvA st e env [] (ps.map (fun p => .ev p env) ++ [.doo x])
  | call {k ps x} (he : Its st e (k :: ps)) (hk : st[k]? = some (.wd x)) (hx : special x = false) (h5 : ps.length ≤ 5) : EvA st e env [] (ps.map (fun p => .ev p env) ++ [.call k ps.length])
def spEvaluate (w : World) (CS CM : Addr) : Sp := fun vs H Q _ => ∃ (M : MAd) (y : Nat) (fns : Fns) (A : AM) (e : Nat) (d : Addr) (env : List (Nat × Nat)) (add : List Nat) (ts : List Tsk), vs = [.ref M.m, vI e, .ref d] ∧ MachAt w CS CM H M y fns A ∧ EnvAt M.own H d env ∧ EvA A.st e env add ts ∧ A.st.length ≤ 10000000 ∧ A.fd.length ≤ 10000000 ∧ A.td.length + 10 ≤ 10000000 ∧
  ∀ H', MachAt w CS CM H' M y fns { A with fd := A.fd ++ add, td := ts ++ A.td } → Frm M.own H H' → Q .non H'
theorem scEvaluate : FnScope nEvaluate ["self", "expression", "names"] (defScope sEvaluate) := ⟨rfl, rfl, rfl, by decide +kernel, rfl, by decide +kernel, by decide +kernel⟩
theorem MachAt.appT {H : Hp} {M : MAd} {y : Nat} {fns : Fns} {A : AM} (MA : MachAt w CS CM H M y fns A) (hl : A.td.length ≤ 10000000) {t : Tsk} {v : V} (h : TskAt M.own H t v) {Q : VK} (q : ∀ H2, MachAt w CS CM H2 M y fns { A with td := t :: A.td } → Frm M.own H H2 → Q .non H2) : rAppend (.ref M.td) [v] H Q := by
  obtain ⟨vs, ht, hp⟩ := MA.td
  obtain ⟨MA2, F2⟩ := MA.push ht hp h
  exact ⟨M.td, _, _, rfl, rfl, ht, small7 (by have := hp.length; rw [List.length_reverse] at this; omega), q _ MA2 F2⟩
theorem EvA.lt {st : Sto} {e : Nat} {env : List (Nat × Nat)} {add : List Nat} {ts : List Tsk} (h : EvA st e env add ts) : e < st.length := by
  cases h with
  | var he _ => exact (List.getElem?_eq_some_iff.mp he).1
  | quo he _ => exact he.isL.lt
  | iff he _ => exact he.isL.lt
  | prim he _ _ _ => exact he.isL.lt
  | call he _ _ _ => exact he.isL.lt
/-- a display of a task, put on the list -/
theorem MachAt.pushT {H : Hp} {M : MAd} {y : Nat} {fns : Fns} {A : AM} (MA : MachAt w CS CM H M y fns A) (hl : A.td.length ≤ 10000000) {t : Tsk} {xs : List V} {p : Addr} (hp : H p = none) (h : TskAt M.own (upd H p (.tup xs)) t (.ref p)) {Q : VK}
    (q : ∀ H2, MachAt w CS CM H2 M y fns { A with td := t :: A.td } → Frm M.own H H2 → Q .non H2) : rAppend (.ref M.td) [.ref p] (upd H p (.tup xs)) Q := by
  have hS : Same H (upd H p (.tup xs)) := Same.new hp
  exact (MA.same hS).appT hl h fun H2 MA2 F2 => q H2 MA2 ((Frm.of_same hS).trans F2)
theorem EnvAt.same {own : List Addr} {H H' : Hp} {d : Addr} {env : List (Nat × Nat)} (h : EnvAt own H d env) (f : Same H H') : EnvAt own H' d env := h.keep (Frm.of_same (S := []) f) (by simp)
theorem EnvAt.frm {own : List Addr} {H H' : Hp} {d : Addr} {env : List (Nat × Nat)} (h : EnvAt own H d env) (f : Frm own H H') : EnvAt own H' d env := h.keep f fun _ h => h
theorem tNil_app {σ : L2.St} {H : Hp} {r : List V → Hp → Prop} (h : r [] H) : tNil σ H r := h
theorem cutV_tail (v : V) (xs : List V) : cutV (v :: xs) (some 1) none = xs := by
  unfold cutV
  have e : HT.sIx (v :: xs).length 0 (some 1) = 1 := by
    have := HT.sIx_nat (v :: xs).length 0 1
    rw [show (some 1 : Option Int) = some ((1 : Nat) : Int) from rfl, this, List.length_cons]
    omega
  rw [e, HT.sIx_none, List.drop_one, List.tail_cons, List.take_of_length_le (by simp)]
theorem inStr (x : Str) (xs : List Str) : inV (V.str x) (xs.map V.str) = decide (x ∈ xs) := by
  unfold inV
  rw [Bool.eq_iff_iff, List.any_eq_true, decide_eq_true_iff]
  constructor
  · rintro ⟨v, hv, e⟩
    obtain ⟨z, hz, rfl⟩ := List.mem_map.mp hv
    have : z = x := by simpa [eqV] using e
    rw [← this]; exact hz
  · intro h
    exact ⟨.str x, List.mem_map.mpr ⟨x, h, rfl⟩, by simp [eqV]⟩
theorem inPlain {x : Str} (h : x ∈ plainW) : inV (V.str x) (plainW.map V.str) = true := by
  rw [inStr]
  exact decide_eq_true h
theorem notPlain {x : Str} (h : special x = false) : inV (V.str x) (plainW.map V.str) = false := by
  rw [inStr]
  refine decide_eq_false fun z => ?_
  have : special x = true := by
    unfold special
    refine decide_eq_true ?_
    simp only [plainW, List.mem_cons, List.not_mem_nil, or_false] at z ⊢
    rcases z with z | z | z | z | z <;> simp [z]
  rw [h] at this
  cases this
theorem ok_evaluate (B : Blt mg) (S : SCl K CS) (T : MCl K CM) (PL : PlainAt K mg aP) (c_is_word : C8.Met P w K mg base 1 CS "is_word" (spSIsWord w CS) []) (c_items_of : C8.Met P w K mg base 1 CS "items_of" (spItemsOf w CS) []) (g : MDef K CM "evaluate" "Machine.evaluate" sEvaluate []) :
    C8.Met P w K mg base 2 CM "evaluate" (spEvaluate w CS CM) [] := by
  refine met_of g scEvaluate (fun _ _ _ _ _ _ us hl => match us, hl with | [_, _, _], _ => rfl) (fun vs H Q E h => ?_) (fun f cdv A outer s H vs Q E hr h => ?_)
  · obtain ⟨M, y, fns, A, e, d, env, add, ts, rfl, _⟩ := h; rfl
  obtain ⟨M, y, fns, A, e, d, env, add, ts, rfl, MA, HE, hev, hl, hfl, htl, k⟩ := h
  have nd := scEvaluate.nd
  have hu := hu_of hr
  have hP := PL.mg
  refine ⟨_, (pss_cons (ps_if (pt_val (C8.pe_mt c_is_word hr (by decide) (pe_fld (pv 0) rfl) (pa_cons (pv 1) pa_nil))) (pss_cons (ps_expr (pe_bm PySem.F.plainAttrs_list PySem.F.slot_list_append PySem.F.type_list_append mt_append (pe_fld (pv 0) rfl) (pa_cons (pe_dget hu (pv 2) (pv 1) (fun _ _ => rfl)) pa_nil)))
    (pss_one ps_retN)) pss_nil)
    (pss_cons (ps_set (i := 3) nd rfl (.inl rfl) (C8.pe_mt c_items_of hr (by decide) (pe_fld (pv 0) rfl) (pa_cons (pv 1) pa_nil)))
    (pss_cons (ps_set (i := 4) nd rfl (.inl rfl) (pe_ix ix_list (pe_fld (pe_fld (pv 0) rfl) rfl) (pe_ix ix_list (pv 3) pe_int (fun _ _ => rfl)) (fun _ _ => rfl)))
    (pss_one (ps_if (pt_cmpR op_eq (pv 4) pe_str (nomark _)) (pss_one (ps_expr (pe_bm PySem.F.plainAttrs_list PySem.F.slot_list_append PySem.F.type_list_append mt_append (pe_fld (pv 0) rfl) (pa_cons (pe_ix ix_list (pv 3) pe_int (fun _ _ => rfl)) pa_nil)))) (pss_one (ps_if (pt_cmpR op_eq (pv 4) pe_str (nomark _)) (pss_cons (ps_expr (pe_bm PySem.F.plainAttrs_list PySem.F.slot_list_append PySem.F.type_list_append mt_append (pe_fld (pv 0) rfl) (pa_cons (pe_tup (pa_cons pe_str (pa_cons (pe_ix ix_list (pv 3) pe_int (fun _ _ => rfl)) (pa_cons (pe_ix ix_list (pv 3) pe_int (fun _ _ => rfl)) (pa_cons (pv 2) pa_nil))))) pa_nil)))
    (pss_one (ps_expr (pe_bm PySem.F.plainAttrs_list PySem.F.slot_list_append PySem.F.type_list_append mt_append (pe_fld (pv 0) rfl) (pa_cons (pe_tup (pa_cons pe_str (pa_cons (pe_ix ix_list (pv 3) pe_int (fun _ _ => rfl)) (pa_cons (pv 2) pa_nil)))) pa_nil))))) (pss_cons (ps_set (i := 5) nd rfl (.inl rfl) (pe_slice sl_list (pv 3) (po_some pe_int) po_none))
    (pss_cons (ps_expr (pe_bm PySem.F.plainAttrs_list PySem.F.slot_list_append PySem.F.type_list_append mt_append (pe_fld (pv 0) rfl) (pa_cons (pe_ifExp (pt_cmpR op_in_seq (pv 4) (C8.pe_gc (v := .ref aP) rfl hP) (by rfl)) (pe_tup (pa_cons pe_str (pa_cons (pv 4) pa_nil))) (pe_tup (pa_cons pe_str (pa_cons (pe_ix ix_list (pv 3) pe_int (fun _ _ => rfl)) (pa_cons (pe_callB call_len_seq (by rfl) B.len boot_len (pa_cons (pv 5) pa_nil)) pa_nil))))) pa_nil)))
    (pss_one (ps_for PassesOwn.never rfl (pi_reversed rfl B.reversed (pa_cons (pv 5) pa_nil)) (pg_name (i := 6) nd rfl (.inl rfl)) (pss_one (ps_expr (pe_bm PySem.F.plainAttrs_list PySem.F.slot_list_append PySem.F.type_list_append mt_append (pe_fld (pv 0) rfl) (pa_cons (pe_tup (pa_cons pe_str (pa_cons (pv 6) (pa_cons (pv 2) pa_nil)))) pa_nil))))))))))))))), ?_⟩
  obtain ⟨dx, hi⟩ := MA.ins
  obtain ⟨dxs, his⟩ := MA.st.ins
  cases A with
  | mk st fd td n =>
  have hlt := hev.lt
  refine ⟨_, rfl, _, _, _, _, _, rfl, hi, T.cl, T.nStore, rfl, M.sa.s, dxs, _, rfl, his, rfl, _, rfl, M.sa, st, e, rfl, MA.st, hlt, _, rfl, ?_⟩
  -- the items and the word, when the expression is a list
  have its : ∀ {ns : List Nat} {k0 : Nat} {x : Str}, Its st e ns → ns[0]? = some k0 → st[k0]? = some (.wd x) → ∀ {B2 : Prop}, (∀ (H1 : Hp) (p : Addr), Same H H1 → H1 p = some (.lst (ns.map vI)) → ∃ (es : List V), H1 M.sa.le = some (.lst es) ∧ es[k0]? = some (.str x) ∧ MachAt w CS CM H1 M y fns ⟨st, fd, td, n⟩ ∧ EnvAt M.own H1 d env) := fun {ns k0 x} hI h0 hx B2 H1 p hS hp => by
    have MA1 := MA.same hS
    obtain ⟨es, hE, hat⟩ := MA1.st.at
    obtain ⟨v, hv, hm⟩ := hat k0 _ hx
    cases (show v = .str x from hm)
    exact ⟨es, hE, hv, MA1, HE.same hS⟩
  cases hev with
  | @var x v he hv =>
    have hw : isWd st e = true := isWd_of he
    obtain ⟨hd, kvs, hk, hall⟩ := HE
    refine iteP hw ⟨_, rfl, _, _, _, _, _, rfl, hi, T.cl, T.nFound, rfl, .inl ⟨rfl, _, SqL.of MA.fd⟩, _, rfl, _, rfl, d, vI v, rfl, (by rw [← hall _ _ hv]; exact DGet.k (k := nk e) hk), MA.app hfl v fun H2 MA2 F2 => ?_⟩
    exact k H2 MA2 F2
  | @quo k0 v he hk =>
    have hw : isWd st e = false := by rcases he.isL with h | ⟨_, _, h⟩ <;> rw [isWd_of h] <;> rfl
    refine iteN hw ⟨_, rfl, _, _, _, _, _, rfl, hi, T.cl, T.nStore, rfl, M.sa.s, dxs, _, rfl, his, rfl, _, rfl, M.sa, st, e, _, rfl, MA.st, he, hl, fun H1 p S1 p0 hp => ?_⟩
    obtain ⟨es, hE, hw', MA1, HE1⟩ := its (B2 := True) he rfl hk H1 p S1 hp
    obtain ⟨dx1, hi1⟩ := MA1.ins
    obtain ⟨dxs1, his1⟩ := MA1.st.ins
    refine ⟨_, rfl, _, _, _, _, _, rfl, hi1, T.cl, T.nStore, rfl, _, _, _, _, _, rfl, his1, S.cl, S.nE, rfl, _, rfl, p, _, _, _, rfl, rfl, SqL.of hp, atI_of (i := 0) rfl, M.sa.le, _, _, _, rfl, rfl, SqL.of hE, atI_of hw', ?_⟩
    refine ⟨_, rfl, rfl, _, rfl, iteT ?_⟩
    refine ⟨_, rfl, _, _, _, _, _, rfl, hi1, T.cl, T.nFound, rfl, .inl ⟨rfl, _, SqL.of MA1.fd⟩, _, rfl, p, _, _, _, rfl, rfl, SqL.of hp, atI_of (i := 1) rfl, MA1.app hfl v fun H2 MA2 F2 => ?_⟩
    exact k H2 MA2 ((Frm.of_same S1).trans F2)
  | @iff k0 t a b he hk =>
    have hw : isWd st e = false := by rcases he.isL with h | ⟨_, _, h⟩ <;> rw [isWd_of h] <;> rfl
    refine iteN hw ⟨_, rfl, _, _, _, _, _, rfl, hi, T.cl, T.nStore, rfl, M.sa.s, dxs, _, rfl, his, rfl, _, rfl, M.sa, st, e, _, rfl, MA.st, he, hl, fun H1 p S1 p0 hp => ?_⟩
    obtain ⟨es, hE, hw', MA1, HE1⟩ := its (B2 := True) he rfl hk H1 p S1 hp
    obtain ⟨dx1, hi1⟩ := MA1.ins
    obtain ⟨dxs1, his1⟩ := MA1.st.ins
    refine ⟨_, rfl, _, _, _, _, _, rfl, hi1, T.cl, T.nStore, rfl, _, _, _, _, _, rfl, his1, S.cl, S.nE, rfl, _, rfl, p, _, _, _, rfl, rfl, SqL.of hp, atI_of (i := 0) rfl, M.sa.le, _, _, _, rfl, rfl, SqL.of hE, atI_of hw', ?_⟩
    refine ⟨_, rfl, rfl, _, rfl, iteF ⟨_, rfl, rfl, _, rfl, iteT ?_⟩⟩
    obtain ⟨vs1, ht1, _⟩ := MA1.td
    have po : p ∉ M.own := MA.notOwn p0
    refine ⟨_, rfl, _, _, _, _, _, rfl, hi1, T.cl, T.nTodo, rfl, .inl ⟨rfl, _, SqL.of ht1⟩, _, rfl, p, _, _, _, rfl, rfl, SqL.of hp, atI_of (i := 2) rfl, _, rfl, p, _, _, _, rfl, rfl, SqL.of hp, atI_of (i := 3) rfl, _, rfl, (by show 4 ≤ sizeLine; decide), fun q hq => ?_⟩
    refine tNil_app ?_
    refine MA1.pushT (t := .iff a b env) (by show td.length ≤ _; simp at htl; omega) hq ⟨q, d, rfl, upd_same, HE1.same (Same.new hq)⟩ fun H2 MA2 F2 => ?_
    obtain ⟨dx2, hi2⟩ := MA2.ins
    obtain ⟨vs2, ht2, _⟩ := MA2.td
    have hp2 := F2.old _ _ hp po
    have HE2 := HE1.frm F2
    refine ⟨_, rfl, _, _, _, _, _, rfl, hi2, T.cl, T.nTodo, rfl, .inl ⟨rfl, _, SqL.of ht2⟩, _, rfl, p, _, _, _, rfl, rfl, SqL.of hp2, atI_of (i := 1) rfl, _, rfl, (by show 3 ≤ sizeLine; decide), fun q hq => ?_⟩
    refine tNil_app ?_
    refine MA2.pushT (t := .ev t env) (by show td.length + 1 ≤ _; simp at htl; omega) hq ⟨q, d, rfl, upd_same, HE2.same (Same.new hq)⟩ fun H3 MA3 F3 => ?_
    exact k H3 (by rw [List.append_nil]; exact MA3) ((Frm.of_same S1).trans (F2.trans F3))
  | @prim k0 ps x he hk hx h5 =>
    have hw : isWd st e = false := by rcases he.isL with h | ⟨_, _, h⟩ <;> rw [isWd_of h] <;> rfl
    refine iteN hw ⟨_, rfl, _, _, _, _, _, rfl, hi, T.cl, T.nStore, rfl, M.sa.s, dxs, _, rfl, his, rfl, _, rfl, M.sa, st, e, _, rfl, MA.st, he, hl, fun H1 p S1 p0 hp => ?_⟩
    obtain ⟨es, hE, hw', MA1, HE1⟩ := its (B2 := True) he rfl hk H1 p S1 hp
    obtain ⟨dx1, hi1⟩ := MA1.ins
    obtain ⟨dxs1, his1⟩ := MA1.st.ins
    refine ⟨_, rfl, _, _, _, _, _, rfl, hi1, T.cl, T.nStore, rfl, _, _, _, _, _, rfl, his1, S.cl, S.nE, rfl, _, rfl, p, _, _, _, rfl, rfl, SqL.of hp, atI_of (i := 0) rfl, M.sa.le, _, _, _, rfl, rfl, SqL.of hE, atI_of hw', ?_⟩
    have x1 : x ≠ "quote" := fun z => absurd (z ▸ hx) (by decide +kernel)
    have x2 : x ≠ "if" := fun z => absurd (z ▸ hx) (by decide +kernel)
    refine ⟨_, rfl, rfl, _, rfl, iteN (decide_eq_false (fun z => x1 (by injection z))) ⟨_, rfl, rfl, _, rfl, iteN (decide_eq_false (fun z => x2 (by injection z))) ?_⟩⟩
    refine ⟨_, rfl, _, rfl, p, _, rfl, SqL.of hp, fun l hl0 => ?_⟩
    have S2 : Same H1 (upd H1 l (.lst (cutV ((k0 :: ps).map vI) (some 1) none))) := Same.new hl0
    have hl1 : upd H1 l (.lst (cutV ((k0 :: ps).map vI) (some 1) none)) l = some (.lst (ps.map vI)) := by
      rw [upd_same, List.map_cons, cutV_tail]
    have MA2 := MA1.same S2
    have HE2 := HE1.same S2
    have lo : l ∉ M.own := MA1.notOwn hl0
    have hp2 := S2 _ _ hp
    have S12 := S1.trans S2
    have po : p ∉ M.own := MA.notOwn p0
    generalize upd H1 l (.lst (cutV ((k0 :: ps).map vI) (some 1) none)) = H2 at S12 hl1 MA2 HE2 hp2 ⊢
    obtain ⟨dx2, hi2⟩ := MA2.ins
    obtain ⟨vs2, ht2, _⟩ := MA2.td
    refine ⟨_, rfl, _, _, _, _, _, rfl, hi2, T.cl, T.nTodo, rfl, .inl ⟨rfl, _, SqL.of ht2⟩, ?_⟩
    refine ⟨_, rfl, aP, _, rfl, .inr (PL.at_ _), rfl, rfl, _, rfl, ?_⟩
    refine iteP (inPlain hx) ⟨_, rfl, (by show 2 ≤ sizeLine; decide), fun q hq => ?_⟩
    refine tNil_app ?_
    refine MA2.pushT (t := .doo x) (by show td.length ≤ _; simp at htl; omega) hq ⟨q, rfl, upd_same⟩ fun H3 MA3 F3 => ?_
    have hl3 := F3.old _ _ hl1 lo
    have HE3 := HE2.frm F3
    have F03 : Frm M.own H H3 := (Frm.of_same S12).trans F3
    refine ⟨_, rfl, l, _, rfl, .inl (.inl hl3), ?_⟩
    refine for_rev (K := K) (a := l) (xs := ps.map vI) (fun i σ H4 => ∃ o, σ = [some (.ref M.m), some (vI e), some (.ref d), some (.ref p), some (.str x), some (.ref l), o] ∧ Frm M.own H3 H4 ∧ MachAt w CS CM H4 M y fns ⟨st, fd, (ps.drop (ps.length - i)).map (fun z => .ev z env) ++ .doo x :: td, n⟩) ⟨none, rfl, Frm.refl, by rw [Nat.sub_zero, List.drop_length]; exact MA3⟩ (fun i σ H4 _ h => ?_) ?_ ?_
    · obtain ⟨o, _, F4, _⟩ := h
      exact SqL.of (F4.old _ _ hl3 lo)
    · rintro i z σ H4 hi4 hz ⟨o, rfl, F4, MA4⟩
      rw [List.length_map] at hi4 hz
      rw [List.getElem?_map] at hz
      obtain ⟨j, hj, rfl⟩ := Option.map_eq_some_iff.mp hz
      obtain ⟨dx4, hi4'⟩ := MA4.ins
      obtain ⟨vs4, ht4, _⟩ := MA4.td
      refine ⟨_, rfl, _, _, _, _, _, rfl, hi4', T.cl, T.nTodo, rfl, .inl ⟨rfl, _, SqL.of ht4⟩, _, rfl, _, rfl, (by show 3 ≤ sizeLine; decide), fun q hq => ?_⟩
      refine tNil_app ?_
      refine MA4.pushT (t := .ev j env) (by show (List.map _ _ ++ _).length ≤ _; simp at htl ⊢; omega) hq ⟨q, d, rfl, upd_same, (HE3.frm F4).same (Same.new hq)⟩ fun H5 MA5 F5 => ?_
      refine ⟨_, rfl, F4.trans F5, ?_⟩
      have e1 : ps.drop (ps.length - (i + 1)) = j :: ps.drop (ps.length - i) := by
        have e2 : ps.length - i = (ps.length - 1 - i) + 1 := by omega
        rw [e2, show ps.length - (i + 1) = ps.length - 1 - i by omega]
        obtain ⟨hj1, hj2⟩ := List.getElem?_eq_some_iff.mp hj
        rw [List.drop_eq_getElem_cons hj1, hj2]
      rw [e1]
      exact MA5
    · rintro σ H4 ⟨o, rfl, F4, MA4⟩
      rw [List.length_map, Nat.sub_self, List.drop_zero] at MA4
      refine k H4 ?_ (F03.trans F4)
      rw [List.append_nil, List.append_assoc]
      exact MA4
  | @call k0 ps x he hk hx h5 =>
    have hw : isWd st e = false := by rcases he.isL with h | ⟨_, _, h⟩ <;> rw [isWd_of h] <;> rfl
    refine iteN hw ⟨_, rfl, _, _, _, _, _, rfl, hi, T.cl, T.nStore, rfl, M.sa.s, dxs, _, rfl, his, rfl, _, rfl, M.sa, st, e, _, rfl, MA.st, he, hl, fun H1 p S1 p0 hp => ?_⟩
    obtain ⟨es, hE, hw', MA1, HE1⟩ := its (B2 := True) he rfl hk H1 p S1 hp
    obtain ⟨dx1, hi1⟩ := MA1.ins
    obtain ⟨dxs1, his1⟩ := MA1.st.ins
    refine ⟨_, rfl, _, _, _, _, _, rfl, hi1, T.cl, T.nStore, rfl, _, _, _, _, _, rfl, his1, S.cl, S.nE, rfl, _, rfl, p, _, _, _, rfl, rfl, SqL.of hp, atI_of (i := 0) rfl, M.sa.le, _, _, _, rfl, rfl, SqL.of hE, atI_of hw', ?_⟩
    have x1 : x ≠ "quote" := fun z => absurd (z ▸ hx) (by decide +kernel)
    have x2 : x ≠ "if" := fun z => absurd (z ▸ hx) (by decide +kernel)
    refine ⟨_, rfl, rfl, _, rfl, iteN (decide_eq_false (fun z => x1 (by injection z))) ⟨_, rfl, rfl, _, rfl, iteN (decide_eq_false (fun z => x2 (by injection z))) ?_⟩⟩
    refine ⟨_, rfl, _, rfl, p, _, rfl, SqL.of hp, fun l hl0 => ?_⟩
    have S2 : Same H1 (upd H1 l (.lst (cutV ((k0 :: ps).map vI) (some 1) none))) := Same.new hl0
    have hl1 : upd H1 l (.lst (cutV ((k0 :: ps).map vI) (some 1) none)) l = some (.lst (ps.map vI)) := by
      rw [upd_same, List.map_cons, cutV_tail]
    have MA2 := MA1.same S2
    have HE2 := HE1.same S2
    have lo : l ∉ M.own := MA1.notOwn hl0
    have hp2 := S2 _ _ hp
    have S12 := S1.trans S2
    have po : p ∉ M.own := MA.notOwn p0
    generalize upd H1 l (.lst (cutV ((k0 :: ps).map vI) (some 1) none)) = H2 at S12 hl1 MA2 HE2 hp2 ⊢
    obtain ⟨dx2, hi2⟩ := MA2.ins
    obtain ⟨vs2, ht2, _⟩ := MA2.td
    refine ⟨_, rfl, _, _, _, _, _, rfl, hi2, T.cl, T.nTodo, rfl, .inl ⟨rfl, _, SqL.of ht2⟩, ?_⟩
    refine ⟨_, rfl, aP, _, rfl, .inr (PL.at_ _), rfl, rfl, _, rfl, ?_⟩
    refine iteN (notPlain hx) ⟨_, rfl, p, _, _, _, rfl, rfl, SqL.of hp2, atI_of (i := 0) rfl, _, rfl, l, _, rfl, .inl (SqL.of hl1), (by show 3 ≤ sizeLine; decide), fun q hq => ?_⟩
    refine tNil_app ?_
    refine MA2.pushT (t := .call k0 ps.length) (by show td.length ≤ _; simp at htl; omega) hq ⟨q, rfl, by rw [upd_same, List.length_map]⟩ fun H3 MA3 F3 => ?_
    have hl3 := F3.old _ _ hl1 lo
    have HE3 := HE2.frm F3
    have F03 : Frm M.own H H3 := (Frm.of_same S12).trans F3
    refine ⟨_, rfl, l, _, rfl, .inl (.inl hl3), ?_⟩
    refine for_rev (K := K) (a := l) (xs := ps.map vI) (fun i σ H4 => ∃ o, σ = [some (.ref M.m), some (vI e), some (.ref d), some (.ref p), some (.str x), some (.ref l), o] ∧ Frm M.own H3 H4 ∧ MachAt w CS CM H4 M y fns ⟨st, fd, (ps.drop (ps.length - i)).map (fun z => .ev z env) ++ .call k0 ps.length :: td, n⟩) ⟨none, rfl, Frm.refl, by rw [Nat.sub_zero, List.drop_length]; exact MA3⟩ (fun i σ H4 _ h => ?_) ?_ ?_
    · obtain ⟨o, _, F4, _⟩ := h
      exact SqL.of (F4.old _ _ hl3 lo)
    · rintro i z σ H4 hi4 hz ⟨o, rfl, F4, MA4⟩
      rw [List.length_map] at hi4 hz
      rw [List.getElem?_map] at hz
      obtain ⟨j, hj, rfl⟩ := Option.map_eq_some_iff.mp hz
      obtain ⟨dx4, hi4'⟩ := MA4.ins
      obtain ⟨vs4, ht4, _⟩ := MA4.td
      refine ⟨_, rfl, _, _, _, _, _, rfl, hi4', T.cl, T.nTodo, rfl, .inl ⟨rfl, _, SqL.of ht4⟩, _, rfl, _, rfl, (by show 3 ≤ sizeLine; decide), fun q hq => ?_⟩
      refine tNil_app ?_
      refine MA4.pushT (t := .ev j env) (by show (List.map _ _ ++ _).length ≤ _; simp at htl ⊢; omega) hq ⟨q, d, rfl, upd_same, (HE3.frm F4).same (Same.new hq)⟩ fun H5 MA5 F5 => ?_
      refine ⟨_, rfl, F4.trans F5, ?_⟩
      have e1 : ps.drop (ps.length - (i + 1)) = j :: ps.drop (ps.length - i) := by
        have e2 : ps.length - i = (ps.length - 1 - i) + 1 := by omega
        rw [e2, show ps.length - (i + 1) = ps.length - 1 - i by omega]
        obtain ⟨hj1, hj2⟩ := List.getElem?_eq_some_iff.mp hj
        rw [List.drop_eq_getElem_cons hj1, hj2]
      rw [e1]
      exact MA5
    · rintro σ H4 ⟨o, rfl, F4, MA4⟩
      rw [List.length_map, Nat.sub_self, List.drop_zero] at MA4
      refine k H4 ?_ (F03.trans F4)
      rw [List.append_nil, List.append_assoc]
      exact MA4
end
end Og
/-! The machine's go_on. -/
namespace Og
open PySem PySem.Spec L2
section
variable {P : Program} {w : World} {K : PySem.W.Frag} {mg : Str → Option Value} {base : Heap} {CS CM aP : Addr}
abbrev sGoOn : Stmt := inClass (top 27) 3
abbrev nGoOn : List Str := ["self", "limit", "task", "chosen", "many", "numbers", "_"]
structure Fits (A : AM) (m : Nat) : Prop where
  st : A.st.length + m ≤ 10000000
  fd : A.fd.length + m ≤ 10000000
  td : A.td.length + 6 * m + 20 ≤ 10000000
def spGoOn (w : World) (CS CM : Addr) : Sp := fun vs H Q _ => ∃ (M : MAd) (y limit : Nat) (fns : Fns) (A B : AM) (m : Nat), vs = [.ref M.m, vI limit] ∧ MachAt w CS CM H M y fns A ∧ Chain fns y limit m A B ∧ B.td = [] ∧ Fits A m ∧
  ∀ H', MachAt w CS CM H' M y fns B → Frm M.own H H' → Q .non H'
theorem scGoOn : FnScope nGoOn ["self", "limit"] (defScope sGoOn) := ⟨rfl, rfl, rfl, by decide +kernel, rfl, by decide +kernel, by decide +kernel⟩
theorem numOf_len (st : Sto) (e : Ent) : (numOf st e).1.length ≤ st.length + 1 := by
  unfold numOf
  split <;> simp
theorem StepA.fits {fns : Fns} {y limit m : Nat} {A C : AM} (h : StepA fns y limit A C) (f : Fits A (m + 1)) : Fits C m := by
  obtain ⟨h1, h2, h3⟩ := f
  cases h <;> simp only [List.length_append, List.length_cons, List.length_map, List.length_nil] at h1 h2 h3
  all_goals constructor <;> simp only [List.length_append, List.length_cons, List.length_map, List.length_nil]
  all_goals first
    | omega
    | (have := numOf_len ‹Sto› (.pr ‹Nat› ‹Nat›); omega)
    | skip
  all_goals (unfold joinN)
  all_goals (rename_i st _ a b _ _ _ _; have := numOf_len st (.pr a (tailOf st b)); omega)
theorem StepA.kind {fns : Fns} {y limit : Nat} {A C : AM} (h : StepA fns y limit A C) :
    (∃ st fd e env r n add ts, A = ⟨st, fd, .ev e env :: r, n⟩ ∧ C = ⟨st, fd ++ add, ts ++ r, n + 1⟩ ∧ n < limit ∧ EvA st e env add ts) ∨
    (∃ st fd k r n st' fd', A = ⟨st, fd, .doo k :: r, n⟩ ∧ C = ⟨st', fd', r, n⟩ ∧ DoA y st k fd st' fd') ∨
    (∃ st fd c a b env r n, A = ⟨st, fd ++ [c], .iff a b env :: r, n⟩ ∧ C = ⟨st, fd, .ev (if c = 0 then b else a) env :: r, n⟩) ∨
    ∃ st fd args f many pn b r n, A = ⟨st, fd ++ args, .call f many :: r, n⟩ ∧ C = ⟨st, fd, .ev b (pn.zip args) :: r, n⟩ ∧ args.length = many ∧ fns.lookup f = some (pn, b) ∧ pn.length = args.length ∧ pn.Nodup ∧ args.length ≤ 5 := by
  cases h with
  | var he hv hn => exact .inl ⟨_, _, _, _, _, _, _, _, rfl, by simp, hn, .var he hv⟩
  | quo he hk hn => exact .inl ⟨_, _, _, _, _, _, _, _, rfl, by simp, hn, .quo he hk⟩
  | iff he hk hn => exact .inl ⟨_, _, _, _, _, _, _, _, rfl, by simp, hn, .iff he hk⟩
  | prim he hk hx h5 hn => exact .inl ⟨_, _, _, _, _, _, _, _, rfl, by simp, hn, .prim he hk hx h5⟩
  | call he hk hx h5 hn => exact .inl ⟨_, _, _, _, _, _, _, _, rfl, by simp, hn, .call he hk hx h5⟩
  | @iffT st fd c a b env r n hc => exact .inr (.inr (.inl ⟨st, fd, c, a, b, env, r, n, rfl, by rw [if_neg hc]⟩))
  | @iffF st fd a b env r n => exact .inr (.inr (.inl ⟨st, fd, 0, a, b, env, r, n, rfl, by rw [if_pos rfl]⟩))
  | doHead ha => exact .inr (.inl ⟨_, _, _, _, _, _, _, rfl, rfl, .head ha⟩)
  | doTail ha => exact .inr (.inl ⟨_, _, _, _, _, _, _, rfl, rfl, .tail ha⟩)
  | doWord ha => exact .inr (.inl ⟨_, _, _, _, _, _, _, rfl, rfl, .word ha⟩)
  | doSame ha hb => exact .inr (.inl ⟨_, _, _, _, _, _, _, rfl, rfl, .same ha hb⟩)
  | doJoin ha hb => exact .inr (.inl ⟨_, _, _, _, _, _, _, rfl, rfl, .join ha hb⟩)
  | callS hl hf hp hd h5 => exact .inr (.inr (.inr ⟨_, _, _, _, _, _, _, _, _, rfl, rfl, hl, hf, hp, hd, h5⟩))
theorem cutV_drop (xs : List V) (n : Nat) (h : n ≤ xs.length) : cutV xs (some (n : Int)) none = xs.drop n := by
  unfold cutV
  rw [HT.sIx_nat, HT.sIx_none, show min n xs.length = n by omega, List.take_of_length_le (by rw [List.length_drop]; omega)]
theorem MachAt.popT {H : Hp} {M : MAd} {y : Nat} {fns : Fns} {A : AM} (MA : MachAt w CS CM H M y fns A) {t : Tsk} {r : List Tsk} (e : A.td = t :: r) {Q : VK} (q : ∀ H2 v, TskAt M.own H2 t v → MachAt w CS CM H2 M y fns { A with td := r } → Frm M.own H H2 → Q v H2) : rPop (.ref M.td) [] H Q := by
  obtain ⟨vs, ht, hp⟩ := MA.td
  obtain ⟨us, v, rfl, h1, MA2, F2⟩ := MA.pop e ht hp
  refine ⟨M.td, _, _, rfl, rfl, ht, (popR _ _).1, ?_⟩
  rw [(popR _ _).2]
  exact q _ v (TskAt.keep F2 (fun _ h => h) h1) MA2 F2
theorem ok_go_on (B : Blt mg) (N : Nums mg) (T : MCl K CM) (c_evaluate : C8.Met P w K mg base 2 CM "evaluate" (spEvaluate w CS CM) []) (c_do : C8.Met P w K mg base 3 CM "do" (spDo w CS CM) []) (c_begin : C8.Met P w K mg base 1 CM "begin" (spBegin w K CS CM) []) (g : MDef K CM "go_on" "Machine.go_on" sGoOn []) :
    C8.Met P w K mg base 4 CM "go_on" (spGoOn w CS CM) [] := by
  refine met_of g scGoOn (fun _ _ _ _ _ _ us hl => match us, hl with | [_, _], _ => rfl) (fun vs H Q E h => ?_) (fun f cdv A outer s H vs Q E hr h => ?_)
  · obtain ⟨M, y, limit, fns, A, B, m, rfl, _⟩ := h; rfl
  obtain ⟨M, y, limit, fns, A0, B0, m0, rfl, MA, hC, hB, hF, k⟩ := h
  have nd := scGoOn.nd
  refine ⟨_, (pss_one (ps_while PassesOwn.never (PW.pt (pw_and (pt_cmpR op_gt (pe_callB call_len_seq (by rfl) B.len boot_len (pa_cons (pe_fld (pv 0) rfl) pa_nil)) pe_int (nomark _)) (pw_and1 (pt_cmpR op_isN (pe_fld (pv 0) rfl) pe_non (nomark _))))) (pss_cons (ps_set (i := 2) nd rfl (.inl rfl) (pe_bm0 PySem.F.plainAttrs_list PySem.F.slot_list_pop PySem.F.type_list_pop mt_pop (pe_fld (pv 0) rfl)))
    (pss_one (ps_if (pt_cmpR op_eq (pe_ix ix_tup (pv 2) pe_int (fun _ _ => rfl)) pe_str (nomark _)) (pss_cons (ps_if (pt_cmpR op_eq (pe_fld (pv 0) rfl) (pv 1) (nomark _)) pss_never pss_nil)
    (pss_cons (ps_fld (pv 0) (pe_op op_add (pe_fld (pv 0) rfl) pe_int) rfl)
    (pss_one (ps_expr (C8.pe_mt c_evaluate hr (by decide) (pv 0) (pa_cons (pe_ix ix_tup (pv 2) pe_int (fun _ _ => rfl)) (pa_cons (pe_ix ix_tup (pv 2) pe_int (fun _ _ => rfl)) pa_nil))))))) (pss_one (ps_if (pt_cmpR op_eq (pe_ix ix_tup (pv 2) pe_int (fun _ _ => rfl)) pe_str (nomark _)) (pss_one (ps_expr (C8.pe_mt c_do hr (by decide) (pv 0) (pa_cons (pe_ix ix_tup (pv 2) pe_int (fun _ _ => rfl)) pa_nil)))) (pss_one (ps_if (pt_cmpR op_eq (pe_ix ix_tup (pv 2) pe_int (fun _ _ => rfl)) pe_str (nomark _)) (pss_cons (ps_set (i := 3) nd rfl (.inl rfl) (pe_ifExp (pt_cmpR op_eq (pe_bm0 PySem.F.plainAttrs_list PySem.F.slot_list_pop PySem.F.type_list_pop mt_pop (pe_fld (pv 0) rfl)) (C8.pe_gc (v := .int 0) rfl (cstI N.empty)) (nomark _)) (pe_ix ix_tup (pv 2) pe_int (fun _ _ => rfl)) (pe_ix ix_tup (pv 2) pe_int (fun _ _ => rfl))))
    (pss_one (ps_expr (pe_bm PySem.F.plainAttrs_list PySem.F.slot_list_append PySem.F.type_list_append mt_append (pe_fld (pv 0) rfl) (pa_cons (pe_tup (pa_cons pe_str (pa_cons (pv 3) (pa_cons (pe_ix ix_tup (pv 2) pe_int (fun _ _ => rfl)) pa_nil)))) pa_nil))))) (pss_one (ps_if (pt_cmpR op_eq (pe_ix ix_tup (pv 2) pe_int (fun _ _ => rfl)) pe_str (nomark _)) (pss_cons (ps_set (i := 4) nd rfl (.inl rfl) (pe_op op_sub (pe_callB call_len_seq (by rfl) B.len boot_len (pa_cons (pe_fld (pv 0) rfl) pa_nil)) (pe_ix ix_tup (pv 2) pe_int (fun _ _ => rfl))))
    (pss_cons (ps_set (i := 5) nd rfl (.inl rfl) (pe_callTy call_tuple_of (by rfl) B.tuple (by decide +kernel) (pa_cons (pe_slice sl_list (pe_fld (pv 0) rfl) (po_some (pv 4)) po_none) pa_nil)))
    (pss_cons (ps_for PassesOwn.never rfl (pi_tup (pv 5)) (pg_name (i := 6) nd rfl (.inl rfl)) (pss_one (ps_expr (pe_bm0 PySem.F.plainAttrs_list PySem.F.slot_list_pop PySem.F.type_list_pop mt_pop (pe_fld (pv 0) rfl)))))
    (pss_one (ps_expr (C8.pe_mt c_begin hr (by decide) (pv 0) (pa_cons (pe_ix ix_tup (pv 2) pe_int (fun _ _ => rfl)) (pa_cons (pv 5) pa_nil)))))))) pss_never))))))))))), ?_⟩
  refine ⟨fun m σ H' => ∃ (A : AM) (o2 o3 o4 o5 o6 : Option V), σ = [some (.ref M.m), some (vI limit), o2, o3, o4, o5, o6] ∧ Frm M.own H H' ∧ MachAt w CS CM H' M y fns A ∧ Chain fns y limit m A B0 ∧ Fits A m,
    ⟨m0, A0, none, none, none, none, none, rfl, Frm.refl, MA, hC, hF⟩, ?_⟩
  rintro m σ H1 ⟨A, o2, o3, o4, o5, o6, rfl, F1, MA1, hC1, hF1⟩
  obtain ⟨dx, hi⟩ := MA1.ins
  obtain ⟨vs, ht, hp⟩ := MA1.td
  have hvl := hp.length
  rw [List.length_reverse] at hvl
  refine ⟨_, rfl, _, _, _, _, _, rfl, hi, T.cl, T.nTodo, rfl, _, _, rfl, .inl (SqL.of ht), _, _, rfl, rfl, _, rfl, ?_⟩
  cases m with
  | zero =>
    cases (show A = B0 from hC1)
    rw [hB] at hvl
    have e : vs = [] := List.eq_nil_of_length_eq_zero hvl.symm
    subst e
    exact iteF (k H1 MA1 F1)
  | succ m =>
    obtain ⟨C, hS, hC2⟩ := hC1
    have hF2 := hS.fits hF1
    have hpos : decide (0 < (vs.length : Int)) = true := by
      refine decide_eq_true ?_
      have : A.td.length ≠ 0 := by cases hS <;> simp
      omega
    refine iteP hpos ⟨_, rfl, _, _, _, _, _, rfl, hi, T.cl, T.nPair, rfl, rfl, _, rfl, iteT ?_⟩
    refine ⟨fun σ' H' => ∃ m', m' < m + 1 ∧ ∃ (A : AM) (o2 o3 o4 o5 o6 : Option V), σ' = [some (.ref M.m), some (vI limit), o2, o3, o4, o5, o6] ∧ Frm M.own H H' ∧ MachAt w CS CM H' M y fns A ∧ Chain fns y limit m' A B0 ∧ Fits A m', fun _ _ h => h, ?_⟩
    rcases hS.kind with ⟨st, fd, e, env, r, n, add, ts, rfl, rfl, hn, hev⟩ | ⟨st, fd, kw, r, n, st', fd', rfl, rfl, hD⟩ | ⟨st, fd, c, a, b, env, r, n, rfl, rfl⟩ | ⟨st, fd, args, fn, many, pn, b, r, n, rfl, rfl, hm, hf, hpl, hnd, h5⟩
    · -- an expression
      refine ⟨_, rfl, _, _, _, _, _, rfl, hi, T.cl, T.nTodo, rfl, .inl ⟨rfl, _, SqL.of ht⟩, MA1.popT rfl fun H2 v ht2 MA2 F2 => ?_⟩
      obtain ⟨t, d, rfl, htt, hE⟩ := ht2
      obtain ⟨dx2, hi2⟩ := MA2.ins
      refine ⟨_, rfl, t, _, 0, _, rfl, rfl, SqT.of htt, rfl, rfl, _, rfl, iteT ?_⟩
      refine ⟨_, rfl, _, _, _, _, _, rfl, hi2, T.cl, T.nSteps, rfl, _, rfl, rfl, _, rfl, iteN (decide_eq_false (fun z => by injection z with z; exact absurd (Int.ofNat.inj z) (Nat.ne_of_lt hn))) ?_⟩
      refine ⟨_, rfl, _, _, _, _, _, rfl, hi2, T.cl, T.nSteps, rfl, _, _, rfl, rfl, _, rfl, M.m, CM, dx2, _, rfl, hi2, T.cl, T.nSteps, (by show 9 < 1000; decide), ?_⟩
      obtain ⟨MA3, F3⟩ := MA2.setN hi2 (n + 1)
      have htt3 := F3.fix _ _ htt trivial
      have hE3 := hE.frm F3
      change (_ : Ends).nx _ (upd H2 M.m (.ins CM dx2 (mf M y (n + 1))))
      generalize upd H2 M.m (.ins CM dx2 (mf M y (n + 1))) = H3 at MA3 F3 htt3 hE3 ⊢
      obtain ⟨dx3, hi3⟩ := MA3.ins
      obtain ⟨q1, q2, q3⟩ := hF1
      simp only [List.length_cons] at q3
      refine ⟨_, rfl, M.m, dx3, _, rfl, hi3, rfl, _, rfl, t, _, 1, _, rfl, rfl, SqT.of htt3, rfl, _, rfl, t, _, 2, _, rfl, rfl, SqT.of htt3, rfl, M, y, fns, _, e, d, env, add, ts, rfl, MA3, hE3, hev, (by show st.length ≤ _; simp at q1; omega), (by show fd.length ≤ _; simp at q2; omega), (by show r.length + 10 ≤ _; omega), fun H4 MA4 F4 => ?_⟩
      exact ⟨m, by omega, _, _, _, _, _, _, rfl, F1.trans (F2.trans (F3.trans F4)), MA4, hC2, hF2⟩
    · -- a special word
      refine ⟨_, rfl, _, _, _, _, _, rfl, hi, T.cl, T.nTodo, rfl, .inl ⟨rfl, _, SqL.of ht⟩, MA1.popT rfl fun H2 v ht2 MA2 F2 => ?_⟩
      obtain ⟨t, rfl, htt⟩ := ht2
      obtain ⟨dx2, hi2⟩ := MA2.ins
      refine ⟨_, rfl, t, _, 0, _, rfl, rfl, SqT.of htt, rfl, rfl, _, rfl, iteF ?_⟩
      refine ⟨_, rfl, t, _, 0, _, rfl, rfl, SqT.of htt, rfl, rfl, _, rfl, iteT ?_⟩
      obtain ⟨q1, q2, q3⟩ := hF1
      refine ⟨_, rfl, M.m, dx2, _, rfl, hi2, rfl, _, rfl, t, _, 1, _, rfl, rfl, SqT.of htt, rfl, M, y, fns, _, kw, st', fd', rfl, MA2, hD, (by show st.length ≤ _; simp at q1; omega), (by show fd.length ≤ _; simp at q2; omega), fun H4 MA4 F4 => ?_⟩
      exact ⟨m, by omega, _, _, _, _, _, _, rfl, F1.trans (F2.trans F4), MA4, hC2, hF2⟩
    · -- a branch
      refine ⟨_, rfl, _, _, _, _, _, rfl, hi, T.cl, T.nTodo, rfl, .inl ⟨rfl, _, SqL.of ht⟩, MA1.popT rfl fun H2 v ht2 MA2 F2 => ?_⟩
      obtain ⟨t, d, rfl, htt, hE⟩ := ht2
      obtain ⟨dx2, hi2⟩ := MA2.ins
      refine ⟨_, rfl, t, _, 0, _, rfl, rfl, SqT.of htt, rfl, rfl, _, rfl, iteF ?_⟩
      refine ⟨_, rfl, t, _, 0, _, rfl, rfl, SqT.of htt, rfl, rfl, _, rfl, iteF ?_⟩
      refine ⟨_, rfl, t, _, 0, _, rfl, rfl, SqT.of htt, rfl, rfl, _, rfl, iteT ?_⟩
      refine ⟨_, rfl, _, _, _, _, _, rfl, hi2, T.cl, T.nFound, rfl, .inl ⟨rfl, _, SqL.of MA2.fd⟩, MA2.popF rfl fun H3 MA3 F3 => ?_⟩
      refine ⟨rfl, _, rfl, ?_⟩
      rw [dec0]
      have htt3 := F3.fix _ _ htt trivial
      have hE3 := hE.frm F3
      obtain ⟨dx3, hi3⟩ := MA3.ins
      obtain ⟨vs3, ht3, _⟩ := MA3.td
      obtain ⟨q1, q2, q3⟩ := hF1
      simp only [List.length_cons] at q3
      by_cases hc : c = 0
      · rw [decide_eq_true hc]
        rw [if_pos hc] at hC2 hF2
        refine iteT ⟨_, rfl, t, _, 2, _, rfl, rfl, SqT.of htt3, rfl, ?_⟩
        refine ⟨_, rfl, _, _, _, _, _, rfl, hi3, T.cl, T.nTodo, rfl, .inl ⟨rfl, _, SqL.of ht3⟩, _, rfl, _, rfl, t, _, 3, _, rfl, rfl, SqT.of htt3, rfl, (by show 3 ≤ sizeLine; decide), fun p hp0 => ?_⟩
        refine tNil_app ?_
        refine MA3.pushT (t := .ev b env) (by show r.length ≤ _; omega) hp0 ⟨p, d, rfl, upd_same, hE3.same (Same.new hp0)⟩ fun H4 MA4 F4 => ?_
        exact ⟨m, by omega, _, _, _, _, _, _, rfl, F1.trans (F2.trans (F3.trans F4)), MA4, hC2, hF2⟩
      · rw [decide_eq_false hc]
        rw [if_neg hc] at hC2 hF2
        refine iteF ⟨_, rfl, t, _, 1, _, rfl, rfl, SqT.of htt3, rfl, ?_⟩
        refine ⟨_, rfl, _, _, _, _, _, rfl, hi3, T.cl, T.nTodo, rfl, .inl ⟨rfl, _, SqL.of ht3⟩, _, rfl, _, rfl, t, _, 3, _, rfl, rfl, SqT.of htt3, rfl, (by show 3 ≤ sizeLine; decide), fun p hp0 => ?_⟩
        refine tNil_app ?_
        refine MA3.pushT (t := .ev a env) (by show r.length ≤ _; omega) hp0 ⟨p, d, rfl, upd_same, hE3.same (Same.new hp0)⟩ fun H4 MA4 F4 => ?_
        exact ⟨m, by omega, _, _, _, _, _, _, rfl, F1.trans (F2.trans (F3.trans F4)), MA4, hC2, hF2⟩
    · -- a call
      refine ⟨_, rfl, _, _, _, _, _, rfl, hi, T.cl, T.nTodo, rfl, .inl ⟨rfl, _, SqL.of ht⟩, MA1.popT rfl fun H2 v ht2 MA2 F2 => ?_⟩
      obtain ⟨t, rfl, htt⟩ := ht2
      obtain ⟨dx2, hi2⟩ := MA2.ins
      refine ⟨_, rfl, t, _, 0, _, rfl, rfl, SqT.of htt, rfl, rfl, _, rfl, iteF ?_⟩
      refine ⟨_, rfl, t, _, 0, _, rfl, rfl, SqT.of htt, rfl, rfl, _, rfl, iteF ?_⟩
      refine ⟨_, rfl, t, _, 0, _, rfl, rfl, SqT.of htt, rfl, rfl, _, rfl, iteF ?_⟩
      refine ⟨_, rfl, t, _, 0, _, rfl, rfl, SqT.of htt, rfl, rfl, _, rfl, iteT ?_⟩
      refine ⟨_, rfl, _, _, _, _, _, rfl, hi2, T.cl, T.nFound, rfl, _, _, rfl, .inl (SqL.of MA2.fd), _, rfl, t, _, 2, _, rfl, rfl, SqT.of htt, rfl, _, _, rfl, rfl, ?_⟩
      have hmany : (((List.map vI (fd ++ args)).length : Nat) : Int) - (many : Int) = (fd.length : Int) := by
        rw [List.length_map, List.length_append, hm]; omega
      refine ⟨_, rfl, _, _, _, _, _, rfl, hi2, T.cl, T.nFound, rfl, _, rfl, _, rfl, M.fd, _, rfl, SqL.of MA2.fd, fun l hl0 => ?_⟩
      rw [hmany, cutV_drop _ _ (by rw [List.length_map, List.length_append]; omega), List.map_append, List.drop_left' (by rw [List.length_map])]
      have S2 : Same H2 (upd H2 l (.lst (args.map vI))) := Same.new hl0
      refine ⟨l, _, rfl, .inl ⟨SqL.of upd_same, fun q hq => ?_⟩⟩
      have S3 : Same H2 (upd (upd H2 l (.lst (args.map vI))) q (.tup (args.map vI))) := S2.trans (Same.new hq)
      have hqt : upd (upd H2 l (.lst (args.map vI))) q (.tup (args.map vI)) q = some (.tup (args.map vI)) := upd_same
      have MA3 := MA2.same S3
      have htt3 := S3 _ _ htt
      change (_ : Ends).nx _ (upd (upd H2 l (.lst (args.map vI))) q (.tup (args.map vI)))
      generalize upd (upd H2 l (.lst (args.map vI))) q (.tup (args.map vI)) = H3 at S3 hqt MA3 htt3 ⊢
      refine ⟨_, rfl, q, rfl, ⟨_, SqT.of hqt⟩, ?_⟩
      refine for_tup (K := K) (a := q) (xs := args.map vI) (fun i σ H4 => ∃ o6, σ = [some (.ref M.m), some (vI limit), some (.ref t), o3, some (.int (((List.map vI fd ++ List.map vI args).length : Nat) - (many : Int))), some (.ref q), o6] ∧ Frm M.own H3 H4 ∧ MachAt w CS CM H4 M y fns ⟨st, fd ++ args.take (args.length - i), r, n⟩) ⟨o6, rfl, Frm.refl, by rw [Nat.sub_zero, List.take_length]; exact MA3⟩ (fun i σ H4 _ h => ?_) ?_ ?_
      · obtain ⟨o6, _, F4, _⟩ := h
        exact SqT.of (F4.fix _ _ hqt trivial)
      · rintro i z σ H4 hz ⟨o6, rfl, F4, MA4⟩
        obtain ⟨dx4, hi4⟩ := MA4.ins
        have hil : i < args.length := by
          have := (List.getElem?_eq_some_iff.mp hz).1
          rw [List.length_map] at this; exact this
        have hlt : args.length - (i + 1) < args.length := by omega
        have e1 : fd ++ args.take (args.length - i) = (fd ++ args.take (args.length - (i + 1))) ++ [args[args.length - (i + 1)]] := by
          rw [show args.length - i = (args.length - (i + 1)) + 1 by omega, List.take_add_one, List.getElem?_eq_getElem hlt, List.append_assoc] <;> rfl
        refine ⟨_, rfl, _, _, _, _, _, rfl, hi4, T.cl, T.nFound, rfl, .inl ⟨rfl, _, SqL.of MA4.fd⟩, MA4.popF e1 fun H5 MA5 F5 => ?_⟩
        exact ⟨_, rfl, F4.trans F5, MA5⟩
      · rintro σ H4 ⟨o6, rfl, F4, MA4⟩
        rw [List.length_map, Nat.sub_self, List.take_zero, List.append_nil] at MA4
        obtain ⟨dx4, hi4⟩ := MA4.ins
        have htt4 := F4.fix _ _ htt3 trivial
        obtain ⟨q1, q2, q3⟩ := hF1
        simp only [List.length_cons] at q3
        refine ⟨_, rfl, M.m, dx4, _, rfl, hi4, rfl, _, rfl, t, _, 1, _, rfl, rfl, SqT.of htt4, rfl, _, rfl, M, y, fns, _, fn, b, pn, args, q, rfl, MA4, SqT.of (F4.fix _ _ hqt trivial), hf, hpl, hnd, (by show r.length ≤ _; omega), by omega, fun H5 MA5 F5 => ?_⟩
        exact ⟨m, by omega, _, _, _, _, _, _, rfl, F1.trans (F2.trans ((Frm.of_same S3).trans (F4.trans F5))), MA5, hC2, hF2⟩
end
end Og
/-! is_done, is_great, result. -/
namespace Og
open PySem PySem.Spec L2
section
variable {P : Program} {w : World} {K : PySem.W.Frag} {mg : Str → Option Value} {base : Heap} {CS CM : Addr}
abbrev sIsDone : Stmt := inClass (top 27) 2
abbrev sIsGreat : Stmt := inClass (top 27) 6
abbrev sResult : Stmt := inClass (top 27) 7
theorem scIsDone : FnScope ["self"] ["self"] (defScope sIsDone) := ⟨rfl, rfl, rfl, by decide +kernel, rfl, by decide +kernel, by decide +kernel⟩
theorem scIsGreat : FnScope ["self", "number"] ["self"] (defScope sIsGreat) := ⟨rfl, rfl, rfl, by decide +kernel, rfl, by decide +kernel, by decide +kernel⟩
theorem scResult : FnScope ["self"] ["self"] (defScope sResult) := ⟨rfl, rfl, rfl, by decide +kernel, rfl, by decide +kernel, by decide +kernel⟩
def spIsDone (w : World) (CS CM : Addr) : Sp := fun vs H Q _ => ∃ (M : MAd) (y : Nat) (fns : Fns) (A : AM), vs = [.ref M.m] ∧ MachAt w CS CM H M y fns A ∧ A.td = [] ∧ Q (.bl true) H
theorem ok_is_done (B : Blt mg) (T : MCl K CM) (g : MDef K CM "is_done" "Machine.is_done" sIsDone []) : C8.Met P w K mg base 1 CM "is_done" (spIsDone w CS CM) [] := by
  refine met_of g scIsDone (fun _ _ _ _ _ _ us hl => match us, hl with | [_], _ => rfl) (fun vs H Q E h => ?_) (fun f cdv A outer s H vs Q E hr h => ?_)
  · obtain ⟨M, y, fns, A, rfl, _⟩ := h; rfl
  obtain ⟨M, y, fns, A, rfl, MA, hd, k⟩ := h
  refine ⟨_, (pss_one (ps_ret (pe_cmpR op_eq (pe_callB call_len_seq (by rfl) B.len boot_len (pa_cons (pe_fld (pv 0) rfl) pa_nil)) pe_int (nomark _)))), ?_⟩
  obtain ⟨dx, hi⟩ := MA.ins
  obtain ⟨vs, ht, hp⟩ := MA.td
  have hl := hp.length
  rw [hd] at hl
  have e : vs = [] := List.eq_nil_of_length_eq_zero hl.symm
  subst e
  exact ⟨_, rfl, _, _, _, _, _, rfl, hi, T.cl, T.nTodo, rfl, _, _, rfl, .inl (SqL.of ht), rfl, k⟩
def spIsGreat (w : World) (CS CM : Addr) : Sp := fun vs H Q _ => ∃ (M : MAd) (y : Nat) (fns : Fns) (A : AM) (n : Nat) (r : List Nat) (v : PV), vs = [.ref M.m] ∧ MachAt w CS CM H M y fns A ∧ A.fd = n :: r ∧ Den A.st n v ∧ psz v ≤ 200000 ∧ pdp v ≤ 200 ∧ Q (.bl false) H
theorem ok_is_great (N : Nums mg) (S : SCl K CS) (T : MCl K CM) (g : MDef K CM "is_great" "Machine.is_great" sIsGreat []) : C8.Met P w K mg base 1 CM "is_great" (spIsGreat w CS CM) [] := by
  refine met_of g scIsGreat (fun _ _ _ _ _ _ us hl => match us, hl with | [_], _ => rfl) (fun vs H Q E h => ?_) (fun f cdv A outer s H vs Q E hr h => ?_)
  · obtain ⟨M, y, fns, A, n, r, v, rfl, _⟩ := h; rfl
  obtain ⟨M, y, fns, A, n, r, v, rfl, MA, hf, hD, h1, h2, k⟩ := h
  have nd := scIsGreat.nd
  refine ⟨_, (pss_cons (ps_set (i := 1) nd rfl (.inl rfl) (pe_ix ix_list (pe_fld (pv 0) rfl) pe_int (fun _ _ => rfl)))
    (pss_one (ps_ret (pe_or (pe_cmpR op_gt (pe_ix ix_list (pe_fld (pe_fld (pv 0) rfl) rfl) (pv 1) (fun _ _ => rfl)) (C8.pe_gc (v := .int 200000) rfl (cstI N.parts)) (nomark _))
      (pe_one (pe_cmpR op_gt (pe_ix ix_list (pe_fld (pe_fld (pv 0) rfl) rfl) (pv 1) (fun _ _ => rfl)) (C8.pe_gc (v := .int 200) rfl (cstI N.depth)) (nomark _))))))), ?_⟩
  obtain ⟨dx, hi⟩ := MA.ins
  obtain ⟨dxs, his⟩ := MA.st.ins
  obtain ⟨t0, xks, szs, dps, SV⟩ := MA.st.val
  obtain ⟨a, ha, la⟩ := den_siz SV.tab hD
  obtain ⟨b, hb, lb⟩ := den_dep SV.tab hD
  have hfd := MA.fd
  rw [hf] at hfd
  have ha' : (szs.map vI)[n]? = some (vI a) := by rw [List.getElem?_map, ha] <;> rfl
  have hb' : (dps.map vI)[n]? = some (vI b) := by rw [List.getElem?_map, hb] <;> rfl
  refine ⟨_, rfl, _, _, _, _, _, rfl, hi, T.cl, T.nFound, rfl, M.fd, _, _, _, rfl, rfl, SqL.of hfd, atI_of (i := 0) rfl, ?_⟩
  refine ⟨_, rfl, _, _, _, _, _, rfl, hi, T.cl, T.nStore, rfl, _, _, _, _, _, rfl, his, S.cl, S.nS, rfl, _, rfl, M.sa.ls, _, _, _, rfl, rfl, SqL.of SV.hS, atI_of ha', _, _, rfl, rfl, _, rfl, ?_⟩
  refine iteN (decide_eq_false (by omega)) ?_
  refine ⟨_, rfl, _, _, _, _, _, rfl, hi, T.cl, T.nStore, rfl, _, _, _, _, _, rfl, his, S.cl, S.nD, rfl, _, rfl, M.sa.ld, _, _, _, rfl, rfl, SqL.of SV.hD, atI_of hb', _, _, rfl, rfl, ?_⟩
  have e : decide ((200 : Int) < (b : Int)) = false := decide_eq_false (by omega)
  show Q (.bl (decide ((200 : Int) < (b : Int)))) H
  rw [e]
  exact k
def spResult (w : World) (K : PySem.W.Frag) (CS CM : Addr) : Sp := fun vs H Q _ => ∃ (M : MAd) (y : Nat) (fns : Fns) (A : AM) (n : Nat) (r : List Nat) (v : PV), vs = [.ref M.m] ∧ MachAt w CS CM H M y fns A ∧ A.fd = n :: r ∧ Den A.st n v ∧ psz v ≤ 1000000 ∧ A.st.length ≤ 10000000 ∧
  ∀ H' u, Same H H' → Rep K H' v u → Q u H'
theorem ok_result (T : MCl K CM) (c_value_of : C8.Met P w K mg base 2 CS "value_of" (spValueOf w K CS) []) (g : MDef K CM "result" "Machine.result" sResult []) : C8.Met P w K mg base 3 CM "result" (spResult w K CS CM) [] := by
  refine met_of g scResult (fun _ _ _ _ _ _ us hl => match us, hl with | [_], _ => rfl) (fun vs H Q E h => ?_) (fun f cdv A outer s H vs Q E hr h => ?_)
  · obtain ⟨M, y, fns, A, n, r, v, rfl, _⟩ := h; rfl
  obtain ⟨M, y, fns, A, n, r, v, rfl, MA, hf, hD, h1, h2, k⟩ := h
  refine ⟨_, (pss_one (ps_ret (C8.pe_mt c_value_of hr (by decide) (pe_fld (pv 0) rfl) (pa_cons (pe_ix ix_list (pe_fld (pv 0) rfl) pe_int (fun _ _ => rfl)) pa_nil)))), ?_⟩
  obtain ⟨dx, hi⟩ := MA.ins
  obtain ⟨dxs, his⟩ := MA.st.ins
  have hfd := MA.fd
  rw [hf] at hfd
  exact ⟨_, rfl, _, _, _, _, _, rfl, hi, T.cl, T.nStore, rfl, M.sa.s, dxs, _, rfl, his, rfl, _, rfl, _, _, _, _, _, rfl, hi, T.cl, T.nFound, rfl, M.fd, _, _, _, rfl, rfl, SqL.of hfd, atI_of (i := 0) rfl, M.sa, A.st, n, v, rfl, MA.st, hD, h1, h2, k⟩
end
end Og
/-! Machine.__init__. -/
namespace Og
open PySem PySem.Spec L2
/-- C() -/
theorem pe_mk0 {X : Cx} {x : Str} {p pos : Pos} {C : Addr} {sp : Sp} {k j : Nat} (c : C8.Mak X.prog X.w X.K X.mg X.base k x C sp []) (hr : Room j X.A) (hk : k + 1 ≤ j) (hg : Gl X x) (hdb : (x == ("__debug__" : Str)) = false := by decide) :
    PE X (.Call (.Name x p) [] [] pos) (tMake C sp [] C8.E0 tNil) := by
  obtain ⟨f, fd, ps, ds, M, F, hm, b, d⟩ := c.ex
  exact pe_make0 M F (hr.mono hk) hg hm b d C8.pass0 hdb
/-- the machine while it is made -/
structure Ini (w : World) (CS CM : Addr) (H0 : Hp) (m dx : Addr) (H : Hp) (sa : SAd) (st : Sto) (fs : List (Str × V)) : Prop where
  ins : H m = some (.ins CM dx fs)
  st : StoreAt w CS H sa st
  mo : m ∉ sa.s :: sa.own
  old : ∀ b o, H0 b = some o → b ≠ m → H b = some o
  fr : ∀ b ∈ sa.s :: sa.own, H0 b = none
section
variable {w : World} {CS CM : Addr} {H0 H H' : Hp} {m dx : Addr} {sa : SAd} {st : Sto} {fs : List (Str × V)}
theorem Ini.fld (I : Ini w CS CM H0 m dx H sa st fs) (fs' : List (Str × V)) : Ini w CS CM H0 m dx (upd H m (.ins CM dx fs')) sa st fs' ∧ Frm [m] H (upd H m (.ins CM dx fs')) := by
  have F : Frm [m] H (upd H m (.ins CM dx fs')) := Frm.upd (by simp) I.ins (fun z => z)
  have mo := I.mo
  simp only [SAd.own, List.mem_cons, not_or] at mo
  exact ⟨⟨upd_same, I.st.keep F (by simp [Ne.symm mo.1, Ne.symm mo.2.1, Ne.symm mo.2.2.1, Ne.symm mo.2.2.2.1, Ne.symm mo.2.2.2.2.1]), I.mo, fun b o h n => (upd_ne n).trans (I.old b o h n), I.fr⟩, F⟩
theorem Ini.same (I : Ini w CS CM H0 m dx H sa st fs) (S : Same H H') : Ini w CS CM H0 m dx H' sa st fs :=
  ⟨S _ _ I.ins, I.st.same S, I.mo, fun b o h n => S _ _ (I.old b o h n), I.fr⟩
theorem Ini.put (I : Ini w CS CM H0 m dx H sa st fs) {st' : Sto} (h : StoreAt w CS H' sa st') (F : Frm sa.own H H') : Ini w CS CM H0 m dx H' sa st' fs :=
  ⟨F.old _ _ I.ins (fun z => I.mo (List.mem_cons_of_mem _ z)), h, I.mo, fun b o q n => F.old _ _ (I.old b o q n) (fun z => by have := I.fr b (List.mem_cons_of_mem _ z); rw [q] at this; cases this), I.fr⟩
theorem Ini.no (I : Ini w CS CM H0 m dx H sa st fs) {p : Addr} (h : H p = none) : p ∉ m :: sa.own := by
  intro z
  rcases List.mem_cons.mp z with rfl | z
  · rw [I.ins] at h; cases h
  · obtain ⟨o, ho, _⟩ := I.st.some p (List.mem_cons_of_mem _ z)
    rw [h] at ho; cases ho
end
/-- the functions' dict, entry by entry -/
def FnE (own : List Addr) (H : Hp) (q : Nat × List Nat × Nat) (kv : Key × V) : Prop := kv.1 = nk q.1 ∧ ∃ t lp, kv.2 = .ref t ∧ H t = some (.tup [.ref lp, vI q.2.2]) ∧ H lp = some (.lst (q.2.1.map vI)) ∧ lp ∉ own
theorem FnE.keep {own S : List Addr} {H H' : Hp} {q : Nat × List Nat × Nat} {kv : Key × V} (h : FnE own H q kv) (F : Frm S H H') (hs : ∀ b ∈ S, b ∈ own) : FnE own H' q kv := by
  obtain ⟨h1, t, lp, h2, h3, h4, h5⟩ := h
  exact ⟨h1, t, lp, h2, F.fix _ _ h3 trivial, F.old _ _ h4 (fun z => h5 (hs _ z)), h5⟩
theorem fnE_at {own : List Addr} {H : Hp} {fns : Fns} {kvs : List (Key × V)} (h : Paired (FnE own H) fns kvs) {f : Nat} {pn : List Nat} {b : Nat} (e : fns.lookup f = some (pn, b)) : FnAt own H kvs f pn b := by
  induction h with
  | nil => cases e
  | @cons q kv qs kvs h t ih =>
    obtain ⟨q1, pn', b'⟩ := q
    obtain ⟨k1, v1⟩ := kv
    obtain ⟨h1, t1, lp, h2, h3, h4, h5⟩ := h
    dsimp only at h1 h2 h3 h4
    subst h1 h2
    rw [List.lookup_cons] at e
    by_cases hf : f = q1
    · subst hf
      simp only [beq_self_eq_true, Option.some.injEq, Prod.mk.injEq] at e
      obtain ⟨rfl, rfl⟩ := e
      exact ⟨t1, lp, by simp [valV], h3, h4, h5⟩
    · rw [show (f == q1) = false from beq_eq_false_iff_ne.mpr hf] at e
      obtain ⟨t2, lp2, g1, g2⟩ := ih e
      refine ⟨t2, lp2, ?_, g2⟩
      rw [← g1]
      unfold valV
      rw [List.find?_cons, show decide (nk q1 = nk f) = false from decide_eq_false (fun z => hf (nk_inj.mp z).symm)]
theorem putK_fnE {own : List Addr} {H : Hp} {fns : Fns} {kvs : List (Key × V)} (h : Paired (FnE own H) fns kvs) {f : Nat} {v : V} (hf : f ∉ fns.map (·.1)) : putK kvs (nk f) v = kvs ++ [(nk f, v)] := by
  unfold putK
  rw [if_neg]
  intro z
  obtain ⟨kv, hm, e⟩ := List.any_eq_true.mp z
  have e' := of_decide_eq_true e
  clear z e
  induction h with
  | nil => cases hm
  | @cons q kv' qs kvs h t ih =>
    rcases List.mem_cons.mp hm with rfl | hm
    · exact hf (by rw [List.map_cons]; rw [nk_inj.mp (e'.symm.trans h.1)]; exact List.mem_cons_self)
    · exact ih (fun z => hf (by rw [List.map_cons]; exact List.mem_cons_of_mem _ z)) hm
theorem Dens.get {st : Sto} {ns : List Nat} {xs : List PV} (h : Dens st ns xs) : ∀ {i : Nat} {n : Nat}, ns[i]? = some n → ∃ x, xs[i]? = some x ∧ Den st n x := by
  induction h with
  | nil => intro i n h; simp at h
  | @cons n v ns vs h t ih =>
    intro i m e
    cases i with
    | zero =>
      have : n = m := by simpa using e
      subst this
      exact ⟨v, by simp, h⟩
    | succ i =>
      obtain ⟨x, h1, h2⟩ := ih (by simpa using e)
      exact ⟨x, by simpa using h1, h2⟩
theorem FnsOk.len {st : Sto} : ∀ {fns : Fns} {P : List Fn}, FnsOk st fns P → fns.length = P.length
  | [], [], _ => rfl
  | _ :: _, _ :: _, ⟨_, _, _, h⟩ => by simp [FnsOk.len h]
  | [], _ :: _, h => h.elim
  | _ :: _, [], h => h.elim
theorem FnsOk.snoc {st : Sto} : ∀ {fns : Fns} {P : List Fn} {q : Nat × List Nat × Nat} {f : Fn}, FnsOk st fns P → Den st q.1 (.w f.name) → Dens st q.2.1 (f.ps.map .w) → Den st q.2.2 f.body → FnsOk st (fns ++ [q]) (P ++ [f])
  | [], [], _, _, _, a, b, c => ⟨a, b, c, trivial⟩
  | _ :: _, _ :: _, _, _, ⟨x, y, z, r⟩, a, b, c => ⟨x, y, z, FnsOk.snoc r a b c⟩
  | [], _ :: _, _, _, h, _, _, _ => h.elim
  | _ :: _, [], _, _, h, _, _, _ => h.elim
theorem FnsOk.notin {st : Sto} {n : Nat} {f : Fn} (hn : Den st n (.w f.name)) : ∀ {fns : Fns} {P : List Fn}, FnsOk st fns P → f.name ∉ P.map (·.name) → n ∉ fns.map (·.1)
  | [], [], _, _ => by simp
  | [], _ :: _, h, _ => h.elim
  | _ :: _, [], h, _ => h.elim
  | q :: qs, g :: gs, ⟨x, _, _, r⟩, hm => by
    rw [List.map_cons, List.mem_cons, not_or] at hm ⊢
    refine ⟨fun e => hm.1 ?_, FnsOk.notin hn r hm.2⟩
    have := x.fn (e ▸ hn)
    injection this with this
    exact this.symm
section
variable {P : Program} {w : World} {K : PySem.W.Frag} {mg : Str → Option Value} {base : Heap} {CS CM : Addr}
abbrev sMInit : Stmt := inClass (top 27) 0
abbrev nMInit : List Str := ["self", "program", "inputs", "keeping", "function", "name", "parameters", "body", "main", "value"]
def spMInit (w : World) (K : PySem.W.Frag) (CS CM : Addr) : Sp := fun vs H Q _ => ∃ (m dx ai : Addr) (vP : V) (ivs : List V) (Pg : List Fn) (f0 : Fn) (rest : List Fn) (xs : List PV), vs = [.ref m, vP, .ref ai, .bl false] ∧ H m = some (.ins CM dx []) ∧ Rep K H (encP Pg) vP ∧ SqL K H ai ivs ∧ ai ≠ m ∧ Reps K H xs ivs ∧
  Pg = f0 :: rest ∧ (Pg.map (·.name)).Nodup ∧ f0.ps.Nodup ∧ f0.ps.length = xs.length ∧ xs.length ≤ 5 ∧ 10 + 2 * (psz (encP Pg) + pszs xs) ≤ 1000000 ∧
  ∀ H' M y fns st pn b args, M.m = m → MachAt w CS CM H' M y fns ⟨st, [], [.ev b (pn.zip args)], 0⟩ → Den st y yes → FnsOk st fns Pg → Dens st pn (f0.ps.map .w) → Den st b f0.body → Dens st args xs → st.length ≤ 10 + 2 * (psz (encP Pg) + pszs xs) → (∀ c o, H c = some o → c ≠ m → H' c = some o) → (∀ c ∈ M.own, c ≠ m → H c = none) → Q .non H'
theorem scMInit : FnScope nMInit ["self", "program", "inputs", "keeping"] (defScope sMInit) := ⟨rfl, rfl, rfl, by decide +kernel, rfl, by decide +kernel, by decide +kernel⟩
abbrev BodyMInit (P : Program) (w : World) (K : PySem.W.Frag) (mg : Str → Option Value) (base : Heap) (CS CM : Addr) : Prop := BodyOf P w K mg base "Machine.__init__" sMInit nMInit 2 (spMInit w K CS CM)
theorem Ini.new0 {H0 H : Hp} {m dx : Addr} {sa : SAd} {st : Sto} {fs : List (Str × V)} (I : Ini w CS CM H0 m dx H sa st fs) {p : Addr} (h : H p = none) : H0 p = none := by
  cases q : H0 p with
  | none => rfl
  | some o =>
    have : p ≠ m := fun e => by rw [e, I.ins] at h; cases h
    rw [I.old p o q this] at h; cases h
theorem SAd.nodup {H : Hp} {sa : SAd} {st : Sto} (SA : StoreAt w CS H sa st) : sa.own.Nodup := by
  obtain ⟨t0, xks, szs, dps, SV⟩ := SA.val
  have h1 : sa.le ≠ sa.nd := ne_of SV.hE SV.hN (by intro q; cases q)
  have h2 : sa.nd ≠ sa.ls := ne_of SV.hN SV.hS (by intro q; cases q)
  have h3 : sa.nd ≠ sa.ld := ne_of SV.hN SV.hD (by intro q; cases q)
  simp [SAd.own, h1, h2, h3, SA.n1, SA.n2, SA.n3]
theorem body_minit (B : Blt mg) (T : MCl K CM) (c_Store : C8.Mak P w K mg base 1 "Store" CS (spSInit w CS) []) (c_put : C8.Met P w K mg base 2 CS "put" (spPut w K CS) []) (c_items_of : C8.Met P w K mg base 1 CS "items_of" (spItemsOf w CS) [])
    (c_begin : C8.Met P w K mg base 1 CM "begin" (spBegin w K CS CM) []) : BodyMInit P w K mg base CS CM := by
  intro f cdv A outer s H vs Q E hr h
  obtain ⟨m, dx, ai, vP, ivs, Pg, f0, rest, xs, rfl, hm, hP, hai, naim, hxs, hPg, hnm, hnd0, hlen, h5, hsz, k⟩ := h
  have nd := scMInit.nd
  have hu := hu_of hr
  refine ⟨_, (pss_cons (ps_fld (pv 0) (pe_mk0 c_Store hr (by decide) (by rfl)) rfl)
    (pss_cons (ps_fld (pv 0) (C8.pe_mt c_put hr (by decide) (pe_fld (pv 0) rfl) (pa_cons pe_str pa_nil)) rfl)
    (pss_cons (ps_fld (pv 0) pe_dnewK rfl)
    (pss_cons (ps_for PassesOwn.never rfl (pi_list (C8.pe_mt c_items_of hr (by decide) (pe_fld (pv 0) rfl) (pa_cons (C8.pe_mt c_put hr (by decide) (pe_fld (pv 0) rfl) (pa_cons (pv 1) pa_nil)) pa_nil))) (pg_name (i := 4) nd rfl (.inl rfl)) (pss_cons (ps_asg (C8.pe_mt c_items_of hr (by decide) (pe_fld (pv 0) rfl) (pa_cons (pv 4) pa_nil)) (pg_unl rfl (pgs_cons (pg_name (i := 5) nd rfl (.inl rfl)) (pgs_cons (pg_name (i := 6) nd rfl (.inl rfl)) (pgs_cons (pg_name (i := 7) nd rfl (.inl rfl)) pgs_nil)))))
    (pss_one (ps_dput hu (pe_fld (pv 0) rfl) (pv 5) (pe_tup (pa_cons (C8.pe_mt c_items_of hr (by decide) (pe_fld (pv 0) rfl) (pa_cons (pv 6) pa_nil)) (pa_cons (pv 7) pa_nil))) rfl))))
    (pss_cons (ps_fld (pv 0) (pv 3) rfl)
    (pss_cons (ps_fld (pv 0) pe_dnewK rfl)
    (pss_cons (ps_fld (pv 0) pe_non rfl)
    (pss_cons (ps_fld (pv 0) pe_int rfl)
    (pss_cons (ps_fld (pv 0) (pe_lst pa_nil) rfl)
    (pss_cons (ps_fld (pv 0) (pe_lst pa_nil) rfl)
    (pss_cons (ps_set (i := 8) nd rfl (.inl rfl) (C8.pe_mt c_put hr (by decide) (pe_fld (pv 0) rfl) (pa_cons (pe_ix ix_tup (pe_ix ix_tup (pv 1) pe_int (fun _ _ => rfl)) pe_int (fun _ _ => rfl)) pa_nil)))
    (pss_one (ps_expr (C8.pe_mt c_begin hr (by decide) (pv 0) (pa_cons (pv 8) (pa_cons (pe_callTy call_tuple_of (by rfl) B.tuple (by decide +kernel) (pa_cons (pe_lc (own := [("value", 9)]) (g := gName 9) (tt := tYes) (te := tMeth CS "put" (spPut w K CS) [] C8.E0 (tFld K (tVar 0) "store") (tCons (tVar 9) tNil)) rfl nd (pi_list (pv 2)) (blkOk_by (N := nMInit) (sc := defScope sMInit) (by decide +kernel)) (fun _ _ _ _ _ => pg_name (i := 9) nd rfl (Or.inl rfl)) (fun _ _ _ _ _ => pts_nil) (fun _ _ _ _ _ => C8.pe_mt c_put hr (by decide) (pe_fld (pv 0) rfl) (pa_cons (pv 9) pa_nil))) pa_nil)) pa_nil)))))))))))))))), ?_⟩
  -- self.store = Store()
  intro s1 dx1 hs1 hdx1 hne1
  have hm1 : m ≠ s1 := ne_of_none hm hs1
  have hm2 : m ≠ dx1 := ne_of_none hm hdx1
  refine ⟨s1, dx1, rfl, upd_same, fun H2 sa hsa SA hfr hold => ⟨rfl, ?_⟩⟩
  subst hsa
  have old2 : ∀ b o, H b = some o → H2 b = some o := fun b o h => by
    have n1 : b ≠ sa.s := ne_of_none h hs1
    have n2 : b ≠ dx1 := ne_of_none h hdx1
    exact hold b o (by rw [upd_ne n1, upd_ne n2]; exact h) n1
  have fr2 : ∀ b ∈ sa.s :: sa.own, H b = none := fun b hb => by
    rcases List.mem_cons.mp hb with rfl | hb
    · exact hs1
    · have h := hfr b hb
      by_cases n1 : b = sa.s
      · rw [n1]; exact hs1
      · rw [upd_ne n1] at h
        by_cases n2 : b = dx1
        · rw [n2]; exact hdx1
        · rw [upd_ne n2] at h; exact h
  have mo : m ∉ sa.s :: sa.own := fun z => by
    have := fr2 m z
    rw [hm] at this; cases this
  have I2 : Ini w CS CM H m dx H2 sa [Ent.nil] [] := ⟨old2 _ _ hm, SA, mo, fun b o h _ => old2 b o h, fr2⟩
  refine ⟨_, rfl, m, CM, dx, _, rfl, I2.ins, T.cl, T.nStore, (by show 0 < 1000; decide), ?_⟩
  have I3 := (I2.fld (putF "store" (.ref sa.s) [])).1
  generalize upd H2 m (.ins CM dx (putF "store" (.ref sa.s) [])) = H3 at I3 ⊢
  -- self.yes = self.store.put('yes')
  obtain ⟨dxs3, his3⟩ := I3.st.ins
  refine ⟨_, rfl, _, _, _, _, _, rfl, I3.ins, T.cl, T.nStore, rfl, sa.s, dxs3, _, rfl, his3, rfl, sa, [Ent.nil], yes, .str "yes", rfl, I3.st, rfl, (by show 1 + 2 * 1 ≤ 1000000; decide), fun H4 st4 y SA4 pre4 hy4 hl4 F4 => ?_⟩
  have hl4' : st4.length ≤ 3 := hl4
  have I4 := I3.put SA4 F4
  refine ⟨_, rfl, m, CM, dx, _, rfl, I4.ins, T.cl, T.nYes, (by show 1 < 1000; decide), ?_⟩
  have I5 := (I4.fld (putF "yes" (vI y) (putF "store" (.ref sa.s) []))).1
  generalize upd H4 m (.ins CM dx (putF "yes" (vI y) (putF "store" (.ref sa.s) []))) = H5 at I5 ⊢
  -- self.functions = {}
  refine fun fn hfn => ⟨_, rfl, m, CM, dx, _, rfl, (I5.same (Same.new hfn)).ins, T.cl, T.nFn, (by show 2 < 1000; decide), ?_⟩
  have fno : fn ∉ m :: sa.own := I5.no hfn
  have fn0 : H fn = none := by
    cases q : H fn with
    | none => rfl
    | some o =>
      have : fn ≠ m := fun e => fno (by simp [e])
      rw [I5.old fn o q this] at hfn; cases hfn
  have I6' := (I5.same (H' := upd H5 fn (.dK [])) (Same.new hfn)).fld (putF "functions" (.ref fn) (putF "yes" (vI y) (putF "store" (.ref sa.s) [])))
  have I6 := I6'.1
  have hfn6 : upd (upd H5 fn (.dK [])) m (.ins CM dx (putF "functions" (.ref fn) (putF "yes" (vI y) (putF "store" (.ref sa.s) [])))) fn = some (.dK []) := (upd_ne (fun e => fno (by simp [e]))).trans upd_same
  clear I6'
  generalize upd (upd H5 fn (.dK [])) m (.ins CM dx (putF "functions" (.ref fn) (putF "yes" (vI y) (putF "store" (.ref sa.s) [])))) = H6 at I6 hfn6 ⊢
  have hP6 : Rep K H6 (encP Pg) vP := Rep.keep (fun b o h hf => I6.old b o h (fun e => by rw [e, hm] at h; cases h; exact hf)) hP
  obtain ⟨dxs6, his6⟩ := I6.st.ins
  -- the numbers of the program
  refine ⟨_, rfl, _, _, _, _, _, rfl, I6.ins, T.cl, T.nStore, rfl, sa.s, dxs6, _, rfl, his6, rfl, _, rfl, _, _, _, _, _, rfl, I6.ins, T.cl, T.nStore, rfl, sa.s, dxs6, _, rfl, his6, rfl, _, rfl, sa, st4, encP Pg, vP, rfl, I6.st, hP6, (by omega), fun H7 st7 np SA7 pre7 hnp hl7 F7 => ?_⟩
  have I7 := I6.put SA7 F7
  have hfn7 := F7.old _ _ hfn6 (fun z => fno (List.mem_cons_of_mem _ z))
  obtain ⟨ns, hI, hD⟩ := Den.its (show Den st7 np (.l (Pg.map Fn.enc)) from hnp)
  refine ⟨sa, st7, np, ns, rfl, SA7, hI, (by omega), fun H8 lf S8 lf0 hlf => ⟨lf, rfl, ⟨_, SqL.of hlf⟩, ?_⟩⟩
  have I8 := I7.same S8
  have hfn8 := S8 _ _ hfn7
  have lfo : lf ∉ m :: sa.own := I7.no lf0
  have lfn : fn ≠ lf := ne_of_none hfn7 lf0
  have hlen7 := hD.length
  refine for_list (K := K) (a := lf) (xs := ns.map vI) (fun i σ H9 => ∃ (o4 o5 o6 o7 : Option V) (fns : Fns) (kvs : List (Key × V)), σ = [some (.ref m), some vP, some (.ref ai), some (.bl false), o4, o5, o6, o7, none, none] ∧
      Ini w CS CM H m dx H9 sa st7 (putF "functions" (.ref fn) (putF "yes" (vI y) (putF "store" (.ref sa.s) []))) ∧ H9 lf = some (.lst (ns.map vI)) ∧ H9 fn = some (.dK kvs) ∧ FnsOk st7 fns (Pg.take i) ∧ Paired (FnE (m :: sa.own) H9) fns kvs)
    ⟨none, none, none, none, [], [], rfl, I8, hlf, hfn8, trivial, .nil⟩ (fun i σ H9 _ h => ?_) ?_ ?_
  · obtain ⟨_, _, _, _, _, _, _, _, h, _⟩ := h
    exact SqL.of h
  · rintro i z σ H9 hz ⟨o4, o5, o6, o7, fns, kvs, rfl, I9, hlf9, hfn9, hok, hpr⟩
    rw [List.getElem?_map] at hz
    obtain ⟨j, hj, rfl⟩ := Option.map_eq_some_iff.mp hz
    obtain ⟨x, hx, hdx⟩ := hD.get hj
    rw [List.getElem?_map] at hx
    obtain ⟨g, hg, rfl⟩ := Option.map_eq_some_iff.mp hx
    have hil : i < Pg.length := (List.getElem?_eq_some_iff.mp hg).1
    have hPl : Pg.length ≤ st7.length := by rw [← List.length_map (f := Fn.enc), ← hlen7]; exact Nat.le_trans (hI.len SA7.wf) (Nat.le_of_lt hI.isL.lt)
    obtain ⟨ns3, hI3, hD3⟩ := Den.its (show Den st7 j (.l [.w g.name, .l (g.ps.map .w), g.body]) from hdx)
    cases hD3 with
    | @cons nm _ _ _ dn r1 => cases r1 with
      | @cons pnn _ _ _ dp r2 => cases r2 with
        | @cons b _ _ _ db r3 =>
          cases r3
          obtain ⟨pn, hIp, hDp⟩ := Den.its dp
          obtain ⟨dxs9, his9⟩ := I9.st.ins
          refine ⟨_, rfl, _, _, _, _, _, rfl, I9.ins, T.cl, T.nStore, rfl, sa.s, dxs9, _, rfl, his9, rfl, _, rfl, sa, st7, j, _, rfl, I9.st, hI3, (by omega), fun H10 l1 S10 l10 hl1 => ?_⟩
          have I10 := I9.same S10
          obtain ⟨dxs10, his10⟩ := I10.st.ins
          refine ⟨l1, _, rfl, SqL.of hl1, rfl, _, _, rfl, _, _, rfl, _, _, rfl, rfl, ?_⟩
          refine ⟨_, rfl, _, _, _, _, _, rfl, I10.ins, T.cl, T.nStore, rfl, sa.s, dxs10, _, rfl, his10, rfl, _, rfl, sa, st7, pnn, pn, rfl, I10.st, hIp, (by omega), fun H11 lp S11 lp0 hlp => ?_⟩
          have I11 := I10.same S11
          have lpo : lp ∉ m :: sa.own := I10.no lp0
          refine ⟨_, rfl, (by show 2 ≤ sizeLine; decide), fun t ht0 => ?_⟩
          have S12 : Same H11 (upd H11 t (.tup [.ref lp, vI b])) := Same.new ht0
          have ht12 : upd H11 t (.tup [.ref lp, vI b]) t = some (.tup [.ref lp, vI b]) := upd_same
          have I12 := I11.same S12
          have S92 : Same H9 (upd H11 t (.tup [.ref lp, vI b])) := S10.trans (S11.trans S12)
          have hlp12 := S12 _ _ hlp
          generalize upd H11 t (.tup [.ref lp, vI b]) = H12 at S12 ht12 I12 S92 hlp12 ⊢
          have hfn12 := S92 _ _ hfn9
          have hlf12 := S92 _ _ hlf9
          have hkl : kvs.length ≤ st7.length := by rw [← hpr.length, hok.len, List.length_take]; omega
          refine ⟨_, rfl, _, _, _, _, _, rfl, I12.ins, T.cl, T.nFn, rfl, _, rfl, fn, _, rfl, DPut.k (k := nk nm) hfn12 (small7 (by omega)), ?_⟩
          have hnin : nm ∉ fns.map (·.1) := FnsOk.notin dn hok (fun z => by
            obtain ⟨g', hg', e⟩ := List.mem_map.mp z
            obtain ⟨i', hi', e'⟩ := List.mem_take_iff_getElem.mp hg'
            have hi'l : i' < Pg.length := by omega
            have e2 : (Pg.map (·.name))[i']'(by rw [List.length_map]; omega) = (Pg.map (·.name))[i]'(by rw [List.length_map]; omega) := by
              rw [List.getElem_map, List.getElem_map, e', e]
              have := (List.getElem?_eq_some_iff.mp hg).2
              rw [this]
            have := (List.getElem_inj hnm).mp e2
            omega)
          rw [putK_fnE hpr hnin]
          have F13 : Frm [fn] H12 (upd H12 fn (.dK (kvs ++ [(nk nm, .ref t)]))) := Frm.upd (by simp) hfn12 (fun z => z)
          have I13 : Ini w CS CM H m dx (upd H12 fn (.dK (kvs ++ [(nk nm, .ref t)]))) sa st7 (putF "functions" (.ref fn) (putF "yes" (vI y) (putF "store" (.ref sa.s) []))) := by
            have n0 : fn ≠ m := fun e => fno (by simp [e])
            have n1 : sa.s ≠ fn := fun e => by
              obtain ⟨o, ho⟩ := I12.st.ins
              rw [e, hfn12] at ho; cases ho
            have fno' := fno
            simp only [SAd.own, List.mem_cons, List.not_mem_nil, or_false, not_or] at fno'
            refine ⟨(upd_ne n0.symm).trans I12.ins, I12.st.keep F13 (by simp [n1, Ne.symm fno'.2.1, Ne.symm fno'.2.2.1, Ne.symm fno'.2.2.2.1, Ne.symm fno'.2.2.2.2]), I12.mo, fun c o h n => ?_, I12.fr⟩
            rw [upd_ne (fun e => by rw [e, fn0] at h; cases h)]
            exact I12.old c o h n
          have e1 : Pg.take (i + 1) = Pg.take i ++ [g] := by rw [List.take_add_one, hg] <;> rfl
          have lpfn : lp ≠ fn := fun e => by rw [e, hfn12] at hlp12; cases hlp12
          have tfn : t ≠ fn := fun e => by rw [e, hfn12] at ht12; cases ht12
          refine ⟨_, _, _, _, fns ++ [(nm, pn, b)], kvs ++ [(nk nm, .ref t)], rfl, I13, (upd_ne lfn.symm).trans hlf12, upd_same, by rw [e1]; exact FnsOk.snoc hok dn hDp db, paired_app (paired_mono (fun q kv h => ?_) hpr) (.cons ⟨rfl, t, lp, rfl, (upd_ne tfn).trans ht12, (upd_ne lpfn).trans hlp12, lpo⟩ .nil)⟩
          have h1 := h.keep (Frm.of_same (S := []) S92) (by simp)
          obtain ⟨g1, t', lp', g2, g3, g4, g5⟩ := h1
          exact ⟨g1, t', lp', g2, F13.fix _ _ g3 trivial, (upd_ne (fun e => by rw [e, hfn12] at g4; cases g4)).trans g4, g5⟩
  · rintro σ H9 ⟨o4, o5, o6, o7, fns, kvs, rfl, I9, hlf9, hfn9, hok, hpr⟩
    rw [List.length_map, hlen7, List.length_map, List.take_length] at hok
    have own0 : ∀ b ∈ [m], b ∈ m :: sa.own := fun b hb => by rw [List.mem_singleton.mp hb]; simp
    have nfm : fn ≠ m := fun e => fno (by simp [e])
    -- the plain fields
    refine ⟨_, rfl, _, rfl, m, CM, dx, _, rfl, I9.ins, T.cl, T.nKeep, (by show 3 < 1000; decide), ?_⟩
    obtain ⟨I10, F10⟩ := I9.fld (putF "keeping" (.bl false) (putF "functions" (.ref fn) (putF "yes" (vI y) (putF "store" (.ref sa.s) []))))
    have hfn10 := F10.old _ _ hfn9 (by simp [nfm])
    have hpr10 := paired_mono (fun _ _ h => FnE.keep h F10 own0) hpr
    generalize upd H9 m (.ins CM dx (putF "keeping" (.bl false) (putF "functions" (.ref fn) (putF "yes" (vI y) (putF "store" (.ref sa.s) []))))) = H10 at I10 hfn10 hpr10 ⊢
    refine fun kp hkp => ⟨_, rfl, m, CM, dx, _, rfl, (I10.same (Same.new hkp)).ins, T.cl, T.nKept, (by show 4 < 1000; decide), ?_⟩
    have S11 : Same H10 (upd H10 kp (.dK [])) := Same.new hkp
    obtain ⟨I11, F11⟩ := (I10.same S11).fld (putF "kept" (.ref kp) (putF "keeping" (.bl false) (putF "functions" (.ref fn) (putF "yes" (vI y) (putF "store" (.ref sa.s) [])))))
    have hfn11 := F11.old _ _ (S11 _ _ hfn10) (by simp [nfm])
    have hpr11 := paired_mono (fun _ _ h => FnE.keep (FnE.keep h (Frm.of_same (S := []) S11) (by simp)) F11 own0) hpr10
    generalize upd (upd H10 kp (.dK [])) m (.ins CM dx (putF "kept" (.ref kp) (putF "keeping" (.bl false) (putF "functions" (.ref fn) (putF "yes" (vI y) (putF "store" (.ref sa.s) [])))))) = H11 at I11 hfn11 hpr11 ⊢
    refine ⟨_, rfl, m, CM, dx, _, rfl, I11.ins, T.cl, T.nPair, (by show 5 < 1000; decide), ?_⟩
    obtain ⟨I12, F12⟩ := I11.fld (putF "pair" .non (putF "kept" (.ref kp) (putF "keeping" (.bl false) (putF "functions" (.ref fn) (putF "yes" (vI y) (putF "store" (.ref sa.s) []))))))
    have hfn12 := F12.old _ _ hfn11 (by simp [nfm])
    have hpr12 := paired_mono (fun _ _ h => FnE.keep h F12 own0) hpr11
    generalize upd H11 m (.ins CM dx (putF "pair" .non (putF "kept" (.ref kp) (putF "keeping" (.bl false) (putF "functions" (.ref fn) (putF "yes" (vI y) (putF "store" (.ref sa.s) []))))))) = H12 at I12 hfn12 hpr12 ⊢
    refine ⟨_, rfl, m, CM, dx, _, rfl, I12.ins, T.cl, T.nSteps, (by show 6 < 1000; decide), ?_⟩
    obtain ⟨I13, F13⟩ := I12.fld (putF "steps" (.int 0) (putF "pair" .non (putF "kept" (.ref kp) (putF "keeping" (.bl false) (putF "functions" (.ref fn) (putF "yes" (vI y) (putF "store" (.ref sa.s) [])))))))
    have hfn13 := F13.old _ _ hfn12 (by simp [nfm])
    have hpr13 := paired_mono (fun _ _ h => FnE.keep h F13 own0) hpr12
    generalize upd H12 m (.ins CM dx (putF "steps" (.int 0) (putF "pair" .non (putF "kept" (.ref kp) (putF "keeping" (.bl false) (putF "functions" (.ref fn) (putF "yes" (vI y) (putF "store" (.ref sa.s) [])))))))) = H13 at I13 hfn13 hpr13 ⊢
    -- found
    refine ⟨Nat.zero_le _, fun fd hfd => ⟨_, rfl, m, CM, dx, _, rfl, (I13.same (Same.new hfd)).ins, T.cl, T.nFound, (by show 7 < 1000; decide), ?_⟩⟩
    have S14 : Same H13 (upd H13 fd (.lst [])) := Same.new hfd
    have fdo := I13.no hfd
    have fd0 := I13.new0 hfd
    have fd14 : upd H13 fd (.lst []) fd = some (.lst []) := upd_same
    have nfdm : fd ≠ m := fun e => fdo (by simp [e])
    obtain ⟨I14, F14⟩ := (I13.same S14).fld (putF "found" (.ref fd) (putF "steps" (.int 0) (putF "pair" .non (putF "kept" (.ref kp) (putF "keeping" (.bl false) (putF "functions" (.ref fn) (putF "yes" (vI y) (putF "store" (.ref sa.s) []))))))))
    have hfn14 := F14.old _ _ (S14 _ _ hfn13) (by simp [nfm])
    have hfd14 := F14.old _ _ fd14 (by simp [nfdm])
    have hpr14 := paired_mono (fun _ _ h => FnE.keep (FnE.keep h (Frm.of_same (S := []) S14) (by simp)) F14 own0) hpr13
    have hpr14' : Paired (FnE (fd :: m :: sa.own) (upd (upd H13 fd (.lst [])) m (.ins CM dx (putF "found" (.ref fd) (putF "steps" (.int 0) (putF "pair" .non (putF "kept" (.ref kp) (putF "keeping" (.bl false) (putF "functions" (.ref fn) (putF "yes" (vI y) (putF "store" (.ref sa.s) []))))))))))) fns kvs := paired_mono (fun q kv h => by
      obtain ⟨g1, t', lp', g2, g3, g4, g5⟩ := h
      have nl : lp' ≠ fd := fun e => by rw [e, hfd] at g4; cases g4
      have nm' : lp' ≠ m := fun e => g5 (by simp [e])
      exact ⟨g1, t', lp', g2, F14.fix _ _ (S14 _ _ g3) trivial, F14.old _ _ (S14 _ _ g4) (by simp [nm']), by rw [List.mem_cons, not_or]; exact ⟨nl, g5⟩⟩) hpr13
    clear hpr14
    generalize upd (upd H13 fd (.lst [])) m (.ins CM dx (putF "found" (.ref fd) (putF "steps" (.int 0) (putF "pair" .non (putF "kept" (.ref kp) (putF "keeping" (.bl false) (putF "functions" (.ref fn) (putF "yes" (vI y) (putF "store" (.ref sa.s) [])))))))))  = H14 at I14 hfn14 hfd14 hpr14' ⊢
    -- todo
    refine ⟨Nat.zero_le _, fun td htd => ⟨_, rfl, m, CM, dx, _, rfl, (I14.same (Same.new htd)).ins, T.cl, T.nTodo, (by show 8 < 1000; decide), ?_⟩⟩
    have S15 : Same H14 (upd H14 td (.lst [])) := Same.new htd
    have tdo := I14.no htd
    have td0 := I14.new0 htd
    have td15 : upd H14 td (.lst []) td = some (.lst []) := upd_same
    have ntdm : td ≠ m := fun e => tdo (by simp [e])
    have ntf : td ≠ fd := fun e => by rw [e, hfd14] at htd; cases htd
    obtain ⟨I15, F15⟩ := (I14.same S15).fld (putF "todo" (.ref td) (putF "found" (.ref fd) (putF "steps" (.int 0) (putF "pair" .non (putF "kept" (.ref kp) (putF "keeping" (.bl false) (putF "functions" (.ref fn) (putF "yes" (vI y) (putF "store" (.ref sa.s) [])))))))))
    have hfn15 := F15.old _ _ (S15 _ _ hfn14) (by simp [nfm])
    have hfd15 := F15.old _ _ (S15 _ _ hfd14) (by simp [nfdm])
    have htd15 := F15.old _ _ td15 (by simp [ntdm])
    have hpr15 : Paired (FnE (td :: fd :: m :: sa.own) (upd (upd H14 td (.lst [])) m (.ins CM dx (putF "todo" (.ref td) (putF "found" (.ref fd) (putF "steps" (.int 0) (putF "pair" .non (putF "kept" (.ref kp) (putF "keeping" (.bl false) (putF "functions" (.ref fn) (putF "yes" (vI y) (putF "store" (.ref sa.s) [])))))))))))) fns kvs := paired_mono (fun q kv h => by
      obtain ⟨g1, t', lp', g2, g3, g4, g5⟩ := h
      have nl : lp' ≠ td := fun e => by rw [e, htd] at g4; cases g4
      have nm' : lp' ≠ m := fun e => g5 (by simp [e])
      exact ⟨g1, t', lp', g2, F15.fix _ _ (S15 _ _ g3) trivial, F15.old _ _ (S15 _ _ g4) (by simp [nm']), by rw [List.mem_cons, not_or]; exact ⟨nl, g5⟩⟩) hpr14'
    have efs : putF "todo" (.ref td) (putF "found" (.ref fd) (putF "steps" (.int 0) (putF "pair" .non (putF "kept" (.ref kp) (putF "keeping" (.bl false) (putF "functions" (.ref fn) (putF "yes" (vI y) (putF "store" (.ref sa.s) [])))))))) = mf ⟨m, sa, fn, kp, fd, td⟩ y 0 := rfl
    generalize upd (upd H14 td (.lst [])) m (.ins CM dx (putF "todo" (.ref td) (putF "found" (.ref fd) (putF "steps" (.int 0) (putF "pair" .non (putF "kept" (.ref kp) (putF "keeping" (.bl false) (putF "functions" (.ref fn) (putF "yes" (vI y) (putF "store" (.ref sa.s) [])))))))))) = H15 at I15 hfn15 hfd15 htd15 hpr15 ⊢
    rw [efs] at I15
    -- main = self.store.put(program[0][0])
    have hP15 : Rep K H15 (encP Pg) vP := Rep.keep (fun b o h hf => I15.old b o h (fun e => by rw [e, hm] at h; cases h; exact hf)) hP
    obtain ⟨aP, vsP, e1, hsP, hrP⟩ := id hP15
    rw [hPg] at hrP
    obtain ⟨v0, rP, e2, hr0, _⟩ := hrP
    obtain ⟨a0, vs0, e3, hs0, hr1⟩ := hr0
    obtain ⟨v1, r1, e4, hn1, _⟩ := hr1
    have hn1' : v1 = .str f0.name := hn1
    subst e2 e3 e4 hn1'
    obtain ⟨dxs15, his15⟩ := I15.st.ins
    have hps : 3 ≤ psz (encP Pg) := by
      rw [hPg]
      simp only [encP, List.map_cons, psz, pszs, Fn.enc]
      omega
    refine ⟨_, rfl, _, _, _, _, _, rfl, I15.ins, T.cl, T.nStore, rfl, sa.s, dxs15, _, rfl, his15, rfl, _, rfl, aP, _, 0, _, e1, rfl, hsP, atI_of (i := 0) rfl, a0, _, 0, _, rfl, rfl, hs0, atI_of (i := 0) rfl, sa, st7, .w f0.name, .str f0.name, rfl, I15.st, rfl, (by simp only [psz]; omega), fun H16 st8 mn SA16 pre16 hmn hl16 F16 => ?_⟩
    simp only [psz] at hl16
    have I16 := I15.put SA16 F16
    have sub16 : ∀ b ∈ sa.own, b ∈ td :: fd :: m :: sa.own := fun b hb => by simp [hb]
    have hfn16 := F16.old _ _ hfn15 (fun z => fno (List.mem_cons_of_mem _ z))
    have hfd16 := F16.old _ _ hfd15 (fun z => fdo (List.mem_cons_of_mem _ z))
    have htd16 := F16.old _ _ htd15 (fun z => tdo (List.mem_cons_of_mem _ z))
    have hpr16 := paired_mono (fun _ _ h => FnE.keep h F16 sub16) hpr15
    -- the numbers of the inputs
    have hai16 : SqL K H16 ai ivs := by
      rcases hai with (h | ⟨o, h⟩) | h
      · exact .inl (.inl (I16.old _ _ h naim))
      · exact .inl (.inr ⟨o, I16.old _ _ h naim⟩)
      · exact .inr h
    have hxs16 : Reps K H16 xs ivs := Reps.keep (fun b o h hf => I16.old b o h (fun e => by rw [e, hm] at h; cases h; exact hf)) hxs
    refine ⟨_, rfl, m, dx, _, rfl, I16.ins, rfl, _, rfl, _, rfl, ai, rfl, ⟨_, hai16⟩, fun D hD0 => ?_⟩
    have D0 := I16.new0 hD0
    have Do := I16.no hD0
    have S17 : Same H16 (upd H16 D (.lst [])) := Same.new hD0
    have hpr17 : Paired (FnE (D :: td :: fd :: m :: sa.own) (upd H16 D (.lst []))) fns kvs := paired_mono (fun q kv h => by
      obtain ⟨z1, t', lp', z2, z3, z4, z5⟩ := h
      exact ⟨z1, t', lp', z2, S17 _ _ z3, S17 _ _ z4, by rw [List.mem_cons, not_or]; exact ⟨(fun e => by rw [e, hD0] at z4; cases z4), z5⟩⟩) hpr16
    have hlx : ivs.length = xs.length := hxs.length
    have takes : ∀ i, pszs (xs.take i) ≤ pszs xs := fun i => by
      have : ∀ (l : List PV) (i : Nat), pszs (l.take i) ≤ pszs l := by
        intro l
        induction l with
        | nil => intro i; simp
        | cons x r ih =>
          intro i
          cases i with
          | zero => simp [pszs]
          | succ i => rw [List.take_succ_cons]; simp only [pszs]; have := ih i; omega
      exact this xs i
    refine lc_list (K := K) (a := ai) (xs := ivs) (fun i H' => ∃ (stI : Sto) (as : List Nat), Ini w CS CM H m dx H' sa stI (mf ⟨m, sa, fn, kp, fd, td⟩ y 0) ∧ H' fn = some (.dK kvs) ∧ H' fd = some (.lst []) ∧ H' td = some (.lst []) ∧ Paired (FnE (D :: td :: fd :: m :: sa.own) H') fns kvs ∧
        st8 <+: stI ∧ stI.length ≤ st8.length + 2 * pszs (xs.take i) ∧ Dens stI as (xs.take i) ∧ H' D = some (.lst (as.map vI))) ⟨st8, [], I16.same S17, S17 _ _ hfn16, S17 _ _ hfd16, S17 _ _ htd16, hpr17, List.prefix_refl _, by simp [pszs], .nil, upd_same⟩ (fun i H' _ h => ?_) ?_ ?_
    · obtain ⟨stI, as, I', _⟩ := h
      rcases hai with (h | ⟨o, h⟩) | h
      · exact .inl (.inl (I'.old _ _ h naim))
      · exact .inl (.inr ⟨o, I'.old _ _ h naim⟩)
      · exact .inr h
    · rintro i z H' hz ⟨stI, as, I', g1, g2, g3, g4, g5, g6, g7, g8⟩
      obtain ⟨x, hx, hrx⟩ := hxs.get' hz
      have hrx' : Rep K H' x z := Rep.keep (fun b o h hf => I'.old b o h (fun e => by rw [e, hm] at h; cases h; exact hf)) hrx
      obtain ⟨dxs', his'⟩ := I'.st.ins
      refine ⟨rfl, ?_⟩
      dsimp only [tYes]
      rw [if_pos rfl]
      have et : xs.take (i + 1) = xs.take i ++ [x] := by rw [List.take_add_one, hx] <;> rfl
      have pa : ∀ (l : List PV) (x : PV), pszs (l ++ [x]) = pszs l + psz x := by
        intro l x
        induction l with
        | nil => simp [pszs]
        | cons a l ih => rw [List.cons_append]; simp only [pszs, ih]; omega
      have tk := takes (i + 1)
      rw [et, pa] at tk
      refine ⟨_, rfl, _, _, _, _, _, rfl, I'.ins, T.cl, T.nStore, rfl, sa.s, dxs', _, rfl, his', rfl, _, rfl, sa, stI, x, z, rfl, I'.st, hrx', (by omega), fun H'' stJ n SA'' pre'' hn hl'' F'' => ?_⟩
      have I'' := I'.put SA'' F''
      have Dn := F''.old _ _ g8 (fun z => Do (List.mem_cons_of_mem _ z))
      refine ⟨_, Dn, (by rw [List.length_map, g7.length, List.length_take]; exact small7 (by omega)), ?_⟩
      have hDH : H D = none := D0
      have nDm : D ≠ m := fun e => Do (by simp [e])
      have f1 : Frm [D] H'' (upd H'' D (.lst (as.map vI ++ [vI n]))) := Frm.upd (by simp) Dn (fun z => z)
      have nDfn : fn ≠ D := fun e => by
        have := F''.old _ _ g1 (fun z => fno (List.mem_cons_of_mem _ z))
        rw [e, Dn] at this; cases this
      have nDfd : fd ≠ D := ne_of_none hfd16 hD0
      have nDtd : td ≠ D := ne_of_none htd16 hD0
      have Do' := Do
      simp only [SAd.own, List.mem_cons, List.not_mem_nil, or_false, not_or] at Do'
      have nDs : sa.s ≠ D := fun e => by
        obtain ⟨o, ho⟩ := SA''.ins
        rw [e, Dn] at ho; cases ho
      refine ⟨stJ, as ++ [n], ⟨(upd_ne nDm.symm).trans I''.ins, I''.st.keep f1 (by simp [nDs, Ne.symm Do'.2.1, Ne.symm Do'.2.2.1, Ne.symm Do'.2.2.2.1, Ne.symm Do'.2.2.2.2]), I''.mo, fun c o h n' => ?_, I''.fr⟩, ?_, ?_, ?_, ?_, g5.trans pre'', ?_, ?_, ?_⟩
      · rw [upd_ne (fun e => by rw [e, hDH] at h; cases h)]
        exact I''.old c o h n'
      · exact (upd_ne nDfn).trans (F''.old _ _ g1 (fun z => fno (List.mem_cons_of_mem _ z)))
      · exact (upd_ne nDfd).trans (F''.old _ _ g2 (fun z => fdo (List.mem_cons_of_mem _ z)))
      · exact (upd_ne nDtd).trans (F''.old _ _ g3 (fun z => tdo (List.mem_cons_of_mem _ z)))
      · exact paired_mono (fun q kv h => FnE.keep (FnE.keep h F'' (fun b hb => by simp [hb])) f1 (fun b hb => by rw [List.mem_singleton.mp hb]; simp)) g4
      · rw [et, pa]
        omega
      · rw [et]
        exact (g7.pre pre'').append (.cons hn .nil)
      · rw [upd_same, List.map_append] <;> rfl
    · rintro H' ⟨stI, as, I', g1, g2, g3, g4, g5, g6, g7, g8⟩
      rw [hlx, List.take_length] at g6 g7
      refine ⟨D, _, rfl, .inl ⟨SqL.of g8, fun l hl0 => ?_⟩⟩
      have S18 : Same H' (upd H' l (.tup (as.map vI))) := Same.new hl0
      have hl18 : upd H' l (.tup (as.map vI)) l = some (.tup (as.map vI)) := upd_same
      have I18 := I'.same S18
      have a1 := S18 _ _ g1
      have a2 := S18 _ _ g2
      have a3 := S18 _ _ g3
      have a4 := paired_mono (fun _ _ h => FnE.keep h (Frm.of_same (S := []) S18) (by simp)) g4
      have hok' := hok.pre ((pre16).trans g5)
      have hmn' := hmn.pre g5
      obtain ⟨pn, b, hlk, hpn, hb⟩ := find_fns I18.st.wf hmn' hok' (f := f0) (by rw [hPg]; exact if_pos rfl)
      have sep : (fd :: td :: sa.own).Nodup := by
        rw [List.nodup_cons, List.nodup_cons, List.mem_cons, not_or]
        exact ⟨⟨ntf.symm, fun z => fdo (List.mem_cons_of_mem _ z)⟩, fun z => tdo (List.mem_cons_of_mem _ z), SAd.nodup I18.st⟩
      have MA : MachAt w CS CM (upd H' l (.tup (as.map vI))) ⟨m, sa, fn, kp, fd, td⟩ y fns ⟨stI, [], [], 0⟩ :=
        ⟨⟨dx, I18.ins⟩, I18.st, a2, ⟨[], a3, .nil⟩, ⟨kvs, a1, fun f pn b e => fnE_at (paired_mono (fun q kv h => by
          obtain ⟨z1, t', lp', z2, z3, z4, z5⟩ := h
          refine ⟨z1, t', lp', z2, z3, z4, fun z => z5 (List.mem_cons_of_mem _ ?_)⟩
          simp only [MAd.own, List.mem_cons] at z ⊢
          rcases z with z | z | z | z
          · exact .inr (.inr (.inl z))
          · exact .inr (.inl z)
          · exact .inl z
          · exact .inr (.inr (.inr z))) a4) e⟩, sep, fun e => I18.mo (List.mem_cons.mpr (.inl e))⟩
      have plen : pn.length = as.length := by rw [hpn.length, g7.length, List.length_map, hlen]
      refine ⟨⟨m, sa, fn, kp, fd, td⟩, y, fns, _, mn, b, pn, as, l, rfl, MA, SqT.of hl18, hlk, plen, nodup_dens hpn hnd0, (by show 0 ≤ _; omega), (by rw [plen, g7.length]; omega), fun H19 MA19 F19 => ?_⟩
      refine k H19 ⟨m, sa, fn, kp, fd, td⟩ y fns stI pn b as rfl MA19 ((hy4.pre (pre7.trans pre16)).pre g5) hok' hpn hb g7 (by omega) (fun c o h hc => ?_) (fun c hc hne => ?_)
      · refine F19.old _ _ (I18.old c o h hc) (fun z => ?_)
        simp only [MAd.own, List.mem_cons] at z
        rcases z with z | z | z | z
        · exact hc z
        · rw [z, fd0] at h; cases h
        · rw [z, td0] at h; cases h
        · have := I18.fr c (List.mem_cons_of_mem _ z)
          rw [h] at this; cases this
      · simp only [MAd.own, List.mem_cons] at hc
        rcases hc with z | z | z | z
        · exact absurd z hne
        · rw [z]; exact fd0
        · rw [z]; exact td0
        · exact I18.fr c (List.mem_cons_of_mem _ z)
end
end Og
/-! enumerate(tuple). -/
namespace Og
open PySem PySem.Spec PyProof.Rows L2
theorem meets_enumOne {v : Value} {o : Obj} {H : Heap → Prop} (B : Begins v o H) :
    Meets (Builtin.«enumerate.__new__» ⟨[.type "enumerate", v], []⟩) (fun _ R s => H s.heap ∧
      R (.ok (.ret (.ref (s.heap.push o).objs.size))) { s with heap := (s.heap.push o).push { cls := .type "enumerate", data := .fields #[.none, .bool false, .ref s.heap.objs.size, rawInt 0, .none, .none] } }) :=
  .of_wp fun prog w A R s h => by
    obtain ⟨hp, g, d, tk, os⟩ := s; obtain ⟨h1, h⟩ := h
    have hsub := sub_enumerate
    have q1 : ∀ {A' : Around} {E : Value → Shared → Prop} {Q : Value → Shared → Prop}, Q (.ref hp.objs.size) ⟨hp.push o, g, d, tk, os⟩ → wpAny (model prog w) A' (pyIter v) Q E ⟨hp, g, d, tk, os⟩ :=
      fun q => B.iter prog w _ _ ⟨hp, g, d, tk, os⟩ _ h1 q
    wp_walk using q1
    refine wpAny_stack_any fun st => wpAny_pure ?_
    split
    · rename_i c _ _ _ _ _
      cases (c == Value.type "enumerate")
      · wp_walk using q1
        exact ⟨_, rfl, h⟩
      · wp_walk using q1
        exact ⟨_, rfl, h⟩
    · wp_walk using q1
      exact ⟨_, rfl, h⟩
theorem call_enumOne {prog : Program} {w : World} {A : Around} {E : Value → Shared → Prop} {s : Shared} {v : Value} {o : Obj} {H : Heap → Prop} {Q : Value → Shared → Prop} (B : Begins v o H) (h1 : H s.heap)
    (h : ∀ h', IsEnum h' (s.heap.objs.size + 1) s.heap.objs.size 0 .none → h'.get? s.heap.objs.size = some o → h'.objs.size = s.heap.objs.size + 2 →
      (∀ b o, s.heap.get? b = some o → h'.get? b = some o) → Q (.ref (s.heap.objs.size + 1)) { s with heap := h' }) :
    wpAny (model prog w) A (call (.type "enumerate") [v]) Q E s := by
  refine callType_new F.called_enumerate (by decide) (F.typeCall_enumerate_1 _) (F.newCall_enumerate_1 _) (fun obj => F.args_object_init_2 obj _) F.entry_enumerate_new
    (meets_enumOne B) ⟨h1, ?_⟩
  have hz : (s.heap.push o).objs.size = s.heap.objs.size + 1 := Heap.size_push ..
  show _ ∧ _
  rw [hz]
  have he : IsEnum ((s.heap.push o).push { cls := .type "enumerate", data := .fields #[.none, .bool false, .ref s.heap.objs.size, rawInt 0, .none, .none] }) (s.heap.objs.size + 1) s.heap.objs.size 0 .none := by
    have := Heap.get?_push_size (s.heap.push o) (o := { cls := .type "enumerate", data := .fields #[.none, .bool false, .ref s.heap.objs.size, rawInt 0, .none, .none] }) rfl
    rw [hz] at this; exact this
  exact ⟨⟨_, he, rfl⟩, h _ he (Heap.get?_push_of_some _ (Heap.get?_push_size _ B.free)) (by rw [Heap.size_push, hz]) fun b o x => Heap.get?_push_of_some _ (Heap.get?_push_of_some _ x)⟩
def ItenT (K : PySem.W.Frag) (a : Addr) : It :=
  ⟨fun i H => ∃ (xs : List V) (x : V), SqT K H a xs ∧ xs[i]? = some x, fun i H v H' => ∃ T x, v = .ref T ∧ H T = none ∧ H' = upd H T (.tup [.int (i : Nat), x]) ∧ ∀ xs, SqT K H a xs → xs[i]? = some x, fun i H => ∃ xs : List V, SqT K H a xs ∧ xs.length = i⟩
theorem ti_ne {h : Heap} {a it : Addr} {i : Nat} {its : Array Value} (h1 : h.IsTupleIter it a i) (p : h.IsTuple a its) : a ≠ it := fun e => by
  obtain ⟨o1, e1, c1, _⟩ := h1
  obtain ⟨o2, e2, c2, _⟩ := p
  rw [e, e1] at e2
  cases e2
  rw [c1] at c2
  exact absurd c2 (by decide)
theorem en_ne {h : Heap} {a e it : Addr} {i : Int} {old : Value} {its : Array Value} (h1 : IsEnum h e it i old) (p : h.IsTuple a its) : a ≠ e := fun q => by
  obtain ⟨o2, e2, c2, _⟩ := p
  have h1' : h.get? e = _ := h1
  rw [q, h1'] at e2
  cases e2
  have c3 : Value.type "enumerate" = Value.type "tuple" := c2
  exact absurd c3 (by decide)
theorem turn_enumT {P : Program} {w : World} {K : PySem.W.Frag} {elts : List Expr} {kk : Nat} {tpos : Pos} (a e it : Addr) :
    Turn P w K (.Tuple elts kk tpos) (ItenT K a) [e, it] e (fun i h => (∃ old, IsEnum h e it ((i : Nat) : Int) old) ∧ h.IsTupleIter it a i ∧ e ≠ it) where
  mem := by simp
  obj := fun i h st b hb => by
    obtain ⟨⟨old, he⟩, ⟨o, ho, hc, hd⟩, _⟩ := st
    have e' : b = e ∨ b = it := by simpa using hb
    rcases e' with z | z
    · rw [z]; exact ⟨_, he, fun v q => nomatch q⟩
    · rw [z]; exact ⟨o, ho, fun v q => by rw [hd] at q; cases q⟩
  keep := fun i h h' st k => let ⟨⟨old, he⟩, hi, hne⟩ := st; ⟨⟨old, k e (by simp) _ he⟩, hi.at fun o q => k it (by simp) o q, hne⟩
  item := by
    intro X hP hw hK hc i pins s σ H E I hf st hg
    subst hP hw hK
    obtain ⟨⟨old, he⟩, hit, hne⟩ := st
    obtain ⟨xs, x, hq, hx⟩ := hg
    obtain ⟨its, rv, p, hz⟩ := I.tuple hq
    obtain ⟨u, hu, ru⟩ := rv.get hx
    have hel : e < s.heap.objs.size := Heap.lt_size he
    have hil : it < s.heap.objs.size := by obtain ⟨_, q, _⟩ := hit; exact Heap.lt_size q
    have hh : X.A.in1.handled = none := I.ok.hd hc
    have d1 : a ≠ it := ti_ne hit p
    have d2 : a ≠ e := en_ne he p
    have l1 : i < its.toArray.size := by rw [List.size_toArray]; exact (List.getElem?_eq_some_iff.mp hu).1
    refine wpAny_pyNext_enum_itemD (Draws.tuple hh it a d1 its.toArray) he ⟨hit, p⟩ l1 hne (by simp [hne, Ne.symm d2]) fun x1 h' tk q1 ho s1 hT hsz hk => ?_
    have e1 : u = x1 := by
      have : its[i]? = some x1 := by simpa using q1
      rw [hu] at this; exact Option.some.inj this
    subst e1
    refine ⟨_, rfl, wpAny_letOwnedTupleGo_enum (s := { s with heap := h', toks := tk + 1 }) ho fun h'' he' sb => ?_⟩
    have hT2 : h''.get? s.heap.objs.size = some { cls := .type "tuple", data := .seq #[.int i tk, u] } := (sb.2 _ (Nat.ne_of_gt hel)).trans hT
    have new : ObjOk X.prog X.w (upd H s.heap.objs.size (.tup [.int (i : Nat), x])) h'' s.heap.objs.size (.tup [.int (i : Nat), x]) :=
      ⟨by show 2 ≤ sizeLine; decide, [.int i tk, u], .cons ⟨_, rfl⟩ (.cons ru .nil), ⟨_, hT2, rfl, _, rfl⟩⟩
    have I1 : Inv X pins σ (upd H s.heap.objs.size (.tup [.int (i : Nat), x])) { s with heap := h'', toks := tk + 1 } :=
      I.turnedNew (ch := [e, it]) (fun b ob hb q => (sb.2 b (fun z => hb (by simp [z]))).trans (hk b ob (fun z => hb (by simp [z])) (fun z => hb (by simp [z])) q)) hf (Nat.le_refl _) new
    refine ⟨.ref s.heap.objs.size, _, I1, rfl, ⟨_, x, rfl, I.hok.fresh (Nat.le_refl _), rfl, fun ys hy => by rw [I.tuple_inj hy hq]; exact hx⟩, ⟨⟨u, ?_⟩, s1.1.at fun o q => (sb.2 it (Ne.symm hne)).trans q, hne⟩, fun b hb => ?_⟩
    · have e1 : ((i + 1 : Nat) : Int) = (i : Int) + 1 := by omega
      rw [e1]; exact he'
    · have hb' : b < s.heap.objs.size := by
        have e' : b = e ∨ b = it := by simpa using hb
        rcases e' with z | z
        · rw [z]; exact hel
        · rw [z]; exact hil
      rw [upd_ne (Nat.ne_of_lt hb')]
      exact (hf b hb).1
  done := by
    intro X hP hw hK hc i pins s σ H E I hf st hg
    subst hP hw hK
    obtain ⟨⟨old, he⟩, hit, hne⟩ := st
    obtain ⟨xs, hq, hx⟩ := hg
    obtain ⟨its, rv, p, hz⟩ := I.tuple hq
    obtain ⟨f0, f1, f2, f3, f4, f5⟩ := hf it (by simp)
    have hl := rv.length
    have hh : X.A.in1.handled = none := I.ok.hd hc
    have d1 : a ≠ it := ti_ne hit p
    have l1 : its.toArray.size = i := by rw [List.size_toArray]; omega
    exact wpAny_pyNext_enum_endD (Draws.tuple hh it a d1 its.toArray) he (by rw [l1]; exact ⟨hit, p⟩) fun h' eb => ⟨rfl, I.turned (t' := s.toks) (fun b o hb q => eb b o hb q) f0 f1 f3 f4 f5⟩
  self := fun A i s Q E st h => let ⟨⟨_, he⟩, _⟩ := st; wpAny_pyIter_enum he h
def iEnumT (K : PySem.W.Frag) (ta : TA) : TI := fun σ H R => ta σ H fun vs H1 => ∃ a xs, vs = [.ref a] ∧ SqT K H1 a xs ∧ R (ItenT K a) H1
theorem pi_enumT {X : Cx} {e : Expr} {ta : TA} {p pos tpos : Pos} {elts : List Expr} {kk : Nat} (hg : Gl X "enumerate") (hm : X.mg "enumerate" = none) (ha : PA X [e] ta) (hs : starEach [e] X.env = [(false, eval e X.env)] := by rfl) :
    PI X (.Tuple elts kk tpos) (.Call (.Name "enumerate" p) [e] [] pos) (iEnumT X.K ta) := by
  refine ⟨fun pins s σ H R I h => ?_⟩
  refine Call_ (ld_blt I hg hm boot_enumerate (PyProof.Rows.callWith_type1 (thn (ha.run pos pins s σ H _ I h) fun us s1 ⟨vs, H1, I1, r1, q1⟩ => ?_) hs rfl))
  obtain ⟨a, xs, ex, hq, q⟩ := q1
  subst ex
  cases r1 with
  | cons r rr =>
    cases rr
    cases r
    obtain ⟨its, rv, p', hz⟩ := I1.tuple hq
    refine call_enumOne (begins_tuple a its.toArray) p' fun h' he hit hsz hk => wpAny_pyIter_enum he ?_
    have I2 : Inv X pins σ H1 { s1 with heap := h' } := I1.kept (t' := s1.toks) fun b o e => hk b o e
    refine ⟨s1.heap.objs.size + 1, [s1.heap.objs.size + 1, s1.heap.objs.size], _, _, H1, rfl, I2, turn_enumT a (s1.heap.objs.size + 1) s1.heap.objs.size, ⟨⟨.none, he⟩, ⟨_, hit, rfl, rfl⟩, Nat.succ_ne_self _⟩, fun b hb => ?_, q⟩
    have e' : b = s1.heap.objs.size + 1 ∨ b = s1.heap.objs.size := by simpa using hb
    have hle : s1.heap.objs.size ≤ b := by
      rcases e' with z | z
      · rw [z]; exact Nat.le_add_right _ _
      · rw [z]; exact Nat.le_refl _
    exact I1.fpOk hle (I1.hok.fresh hle)
theorem for_enumT {K : PySem.W.Frag} {a : Addr} {xs : List V} {g : TG} {tb : TS} {D : Ends} {σ : L2.St} {H : Hp} (Pv : Nat → L2.St → Hp → Prop) (h0 : Pv 0 σ H) (hq : ∀ i σ H, Pv i σ H → SqT K H a xs)
    (hs : ∀ (i : Nat) (x : V) (T : Addr) (σ : L2.St) (H : Hp), xs[i]? = some x → Pv i σ H → H T = none → g (.ref T) σ (upd H T (.tup [.int (i : Nat), x])) fun σ2 H2 => tb { D with nx := Pv (i + 1), ct := Pv (i + 1), bk := D.nx } σ2 H2) (hd : ∀ σ H, Pv xs.length σ H → D.nx σ H) :
    ∃ W : Nat → Nat → L2.St → Hp → Prop, (∃ m, W 0 m σ H) ∧ ∀ i m σ H, W i m σ H →
      ((ItenT K a).stop i H ∧ D.nx σ H) ∨ ((ItenT K a).go i H ∧ ∃ N : L2.St → Hp → Prop, (∀ σ' H', N σ' H' → ∃ m', m' < m ∧ W (i + 1) m' σ' H') ∧ ∀ v H', (ItenT K a).yld i H v H' → g v σ H' fun σ2 H2 => tb { D with nx := N, ct := N, bk := D.nx } σ2 H2) := by
  refine ⟨fun i m σ H => m = xs.length - i ∧ i ≤ xs.length ∧ Pv i σ H, ⟨xs.length, rfl, Nat.zero_le _, h0⟩, ?_⟩
  rintro i m σ H ⟨rfl, hi, p⟩
  have qx := hq i σ H p
  by_cases hlt : i < xs.length
  · have hx : xs[i]? = some xs[i] := List.getElem?_eq_getElem hlt
    refine .inr ⟨⟨xs, _, qx, hx⟩, Pv (i + 1), fun σ' H' p' => ⟨xs.length - (i + 1), by omega, rfl, hlt, p'⟩, fun v H' y => ?_⟩
    obtain ⟨T, x', rfl, hT, rfl, f1⟩ := y
    exact hs i x' T σ H (f1 xs qx) p hT
  · have e : i = xs.length := by omega
    subst e
    exact .inl ⟨⟨xs, qx, rfl⟩, hd σ H p⟩
end Og
/-! SPECIAL_WORDS: in, dict(..). -/
namespace Og
open PySem PySem.Spec L2
def specials : List (Str × Int) := [("quote", 1), ("if", 3), ("same", 2), ("word", 1), ("head", 1), ("tail", 1), ("join", 2)]
def entW (e : DictEntry) : Option (Str × Int × Int) := match e.key, e.val with
  | .str x _, .int i _ => some (x, e.hash, i)
  | _, _ => none
def entsW (P : Params) (l : List (Str × Int)) : List (Option (Str × Int × Int)) := l.map fun p => some (p.1, PyData.keyHash P p.1, p.2)
structure SpecAt (K : PySem.W.Frag) (w : World) (d : Addr) : Prop where
  ex : ∃ es n, K.lookup d = some ⟨.type "dict", none, .dict es n, #[]⟩ ∧ es.toList.map entW = entsW w.params specials
  low : (d == sysModules) = false
def specK : List (Key × V) := specials.map fun p => (Sum.inr p.1, .int p.2)
theorem entW_shape {e : DictEntry} {x : Str} {h i : Int} (q : entW e = some (x, h, i)) : ∃ t u, e.key = .str x t ∧ e.val = .int i u ∧ e.hash = h := by
  unfold entW at q
  split at q
  · rename_i x' t i' u h1 h2
    have q' := Option.some.inj q
    injection q' with a b
    injection b with b c
    exact ⟨t, u, by rw [h1, a], by rw [h2, c], b⟩
  · cases q
theorem ents_lit {P : Params} : ∀ {es : List DictEntry} {l : List (Str × Int)}, es.map entW = entsW P l → PySem.W.KeysLit P es
  | [], _, _ => trivial
  | e :: r, [], h => by cases h
  | e :: r, p :: l, h => by
    have h1 : entW e :: r.map entW = some (p.1, PyData.keyHash P p.1, p.2) :: entsW P l := h
    injection h1 with h2 h3
    obtain ⟨t, u, a, b, c⟩ := entW_shape h2
    exact ⟨⟨p.1, t, a, c⟩, ents_lit h3⟩
theorem ents_find {P : Params} (z : Str) : ∀ {es : List DictEntry} {l : List (Str × Int)}, es.map entW = entsW P l →
    ((es.find? (·.key.isStr z)).isSome = decide (z ∈ l.map (·.1))) ∧ es.any (·.refKey) = false
  | [], [], _ => ⟨by simp, rfl⟩
  | [], _ :: _, h => by cases h
  | e :: r, [], h => by cases h
  | e :: r, p :: l, h => by
    have h1 : entW e :: r.map entW = some (p.1, PyData.keyHash P p.1, p.2) :: entsW P l := h
    injection h1 with h2 h3
    obtain ⟨t, u, a, b, c⟩ := entW_shape h2
    obtain ⟨i1, i2⟩ := ents_find z h3
    refine ⟨?_, ?_⟩
    · rw [List.find?_cons, a]
      by_cases hz : z = p.1
      · subst hz
        simp [Value.isStr]
      · have e1 : (Value.str p.1 t).isStr z = false := by
          simp only [Value.isStr]
          exact beq_eq_false_iff_ne.mpr (fun q => hz q.symm)
        rw [e1]
        simp only [List.map_cons, List.mem_cons, hz, false_or]
        exact i1
    · rw [List.any_cons, i2, Bool.or_false]
      unfold DictEntry.refKey
      rw [a]
theorem ents_pairs {P : Program} {w : World} : ∀ {es : List DictEntry} {l : List (Str × Int)}, es.map entW = entsW w.params l →
    ∃ vs, Pairs (mixKind P w) es vs ∧ KV (l.map fun p => ((Sum.inr p.1 : Key), V.int p.2)) vs ∧ vs.map (·.1) = l.map (fun p => (Sum.inr p.1 : Key)) ∧ ∀ e ∈ es, ∃ k, (mixKind P w).is k e.key = true ∧ e.hash = (mixKind P w).hash k
  | [], [], _ => ⟨[], .nil, .nil, rfl, fun e h => by cases h⟩
  | [], _ :: _, h => by cases h
  | e :: r, [], h => by cases h
  | e :: r, p :: l, h => by
    have h1 : entW e :: r.map entW = some (p.1, PyData.keyHash w.params p.1, p.2) :: entsW w.params l := h
    injection h1 with h2 h3
    obtain ⟨t, u, a, b, c⟩ := entW_shape h2
    obtain ⟨vs, g1, g2, g3, g4⟩ := ents_pairs (P := P) h3
    have hk : (mixKind P w).is (Sum.inr p.1) e.key = true := by rw [a]; exact keyIs_str p.1 t
    refine ⟨(Sum.inr p.1, .int p.2 u) :: vs, .cons hk b g1, .cons ⟨rfl, u, rfl⟩ g2, by simp [g3], fun e' he => ?_⟩
    rcases List.mem_cons.mp he with rfl | he
    · exact ⟨_, hk, c⟩
    · exact g4 e' he
section
variable {K : PySem.W.Frag} {w : World} {d : Addr}
theorem SpecAt.kd (h : SpecAt K w d) : ∃ es n, KDict K w d es n := by
  obtain ⟨es, n, h1, h2⟩ := h.ex
  exact ⟨es, n, h1, ents_lit h2, h.low⟩
theorem SpecAt.ns (h : SpecAt K w d) (z : Str) : ∃ r, PySem.W.nsIn K d z = some r ∧ r.isSome = decide (z ∈ specials.map (·.1)) := by
  obtain ⟨es, n, h1, h2⟩ := h.ex
  obtain ⟨f1, f2⟩ := ents_find z h2
  unfold PySem.W.nsIn
  rw [h1]
  dsimp only
  cases q : es.toList.find? (·.key.isStr z) with
  | some e =>
    rw [q] at f1
    exact ⟨some e.val, rfl, f1⟩
  | none =>
    rw [q] at f1
    rw [f2]
    exact ⟨none, rfl, f1⟩
end
section
variable {X : Cx} {d : Addr}
/-- x in SPECIAL_WORDS -/
theorem op_inW (S : SpecAt X.K X.w d) : OpR X (compareOp .In) (fun x y H Q => ∃ z : Str, x = .str z ∧ y = .ref d ∧ Q (.bl (decide (z ∈ specials.map (·.1)))) H) := by
  obtain ⟨es, n, D⟩ := S.kd
  intro pins s σ H x y v u Q I rx ry h
  obtain ⟨z, rfl, rfl, q⟩ := h
  obtain ⟨r, h1, h2⟩ := S.ns z
  exact op_in_kd D pins s σ H _ _ v u Q I rx ry ⟨z, r, rfl, rfl, h1, by rw [h2]; exact q⟩
/-- dict(SPECIAL_WORDS) -/
theorem call_dictW (S : SpecAt X.K X.w d) : CallR X (.type "dict") (fun xs H Q => xs = [.ref d] ∧ ∀ p, H p = none → Q (.ref p) (upd H p (.dK specK))) := by
  intro pins s σ H xs us Q I r h
  obtain ⟨rfl, q⟩ := h
  obtain ⟨u, rfl, rx⟩ := vals1 r
  cases rx
  obtain ⟨es, n, h1, h2⟩ := S.ex
  obtain ⟨vs, g1, g2, g3, g4⟩ := ents_pairs (P := X.prog) h2
  have hnd : (vs.map (·.1)).Nodup := by rw [g3]; decide +kernel
  have dd : s.heap.DictOf (mixKind X.prog X.w) d vs := ⟨_, es, n, I.kIn _ _ h1, ⟨rfl, rfl, rfl⟩, rfl, fun e he => g4 e (Array.mem_toList_iff.mpr he), g1, hnd⟩
  have hl : vs.length = 7 := by rw [← List.length_map (f := fun p : Key × Value => p.1), g3]; rfl
  refine kt_call_dict S.low dd (by rw [hl]; decide) fun h' dd' hs => ?_
  refine ⟨.ref s.heap.objs.size, _, I.laid (a := s.heap.objs.size) (o := .dK specK) (t' := s.toks) (fun b q hq => ?_) (Nat.le_refl _) (dk_new (by decide) (beq_eq_false_iff_ne.mpr (Ne.symm (Nat.ne_of_lt I.big))) g2 dd'), rfl, q _ (I.hok.fresh (Nat.le_refl _))⟩
  exact (hs.2 b (Nat.ne_of_lt (Heap.lt_size hq))).trans (Heap.get?_push_of_some _ hq)
end
end Og
/-! has_head, counts_of, name_fits. -/
namespace Og
open PySem PySem.Spec L2
theorem reps_w {K : PySem.W.Frag} {H : Hp} : ∀ {ps : List Str} {vs : List V}, Reps K H (ps.map .w) vs → vs = ps.map .str
  | [], vs, h => h
  | p :: ps, vs, h => by
    obtain ⟨v, r, rfl, h1, h2⟩ := h
    rw [reps_w h2, show v = .str p from h1]
    rfl
theorem repEnc {K : PySem.W.Frag} {H : Hp} {f : Fn} {v : V} (h : Rep K H f.enc v) : ∃ a p b, v = .ref a ∧ SqT K H a [.str f.name, .ref p, b] ∧ SqT K H p (f.ps.map .str) ∧ Rep K H f.body b := by
  obtain ⟨a, vs, rfl, h1, v1, r1, rfl, e1, v2, r2, rfl, e2, v3, r3, rfl, e3, e4⟩ := h
  obtain ⟨p, us, rfl, h2, h3⟩ := e2
  cases (show v1 = .str f.name from e1)
  cases (show r3 = [] from e4)
  rw [reps_w h3] at h2
  exact ⟨a, p, v3, rfl, h1, h2, e3⟩
theorem valV_no {kvs : List (Key × V)} {k : Key} (h : ∀ p ∈ kvs, p.1 ≠ k) : valV kvs k = none := by
  unfold valV
  rw [List.find?_eq_none.mpr (fun p hp e => h p hp (of_decide_eq_true e))]
  rfl
theorem putK_no {kvs : List (Key × V)} {k : Key} {v : V} (h : ∀ p ∈ kvs, p.1 ≠ k) : putK kvs k v = kvs ++ [(k, v)] := by
  unfold putK
  rw [if_neg]
  intro z
  obtain ⟨p, hp, e⟩ := List.any_eq_true.mp z
  exact h p hp (of_decide_eq_true e)
def cntK (Pg : List Fn) : List (Key × V) := specK ++ Pg.map fun f => (Sum.inr f.name, .int (f.ps.length : Nat))
theorem cntK_no {Pg : List Fn} {z : Str} (h1 : z ∉ specials.map (·.1)) (h2 : z ∉ Pg.map (·.name)) : ∀ p ∈ cntK Pg, p.1 ≠ Sum.inr z := by
  intro p hp e
  rcases List.mem_append.mp hp with hp | hp
  · obtain ⟨q, hq, rfl⟩ := List.mem_map.mp hp
    have : q.1 = z := Sum.inr.inj e
    exact h1 (List.mem_map.mpr ⟨q, hq, this⟩)
  · obtain ⟨q, hq, rfl⟩ := List.mem_map.mp hp
    have : q.name = z := Sum.inr.inj e
    exact h2 (List.mem_map.mpr ⟨q, hq, this⟩)
theorem notin_take {α β : Type} (f : α → β) {l : List α} (h : (l.map f).Nodup) {i : Nat} {x : α} (hx : l[i]? = some x) : f x ∉ (l.take i).map f := by
  intro z
  obtain ⟨g', hg', e⟩ := List.mem_map.mp z
  obtain ⟨j, hj, e'⟩ := List.mem_take_iff_getElem.mp hg'
  obtain ⟨hi, ei⟩ := List.getElem?_eq_some_iff.mp hx
  have e2 : (l.map f)[j]'(by rw [List.length_map]; omega) = (l.map f)[i]'(by rw [List.length_map]; omega) := by
    rw [List.getElem_map, List.getElem_map, e', e, ei]
  have := (List.getElem_inj h).mp e2
  omega
/-- SPECIAL_WORDS as a name of the module -/
structure SpecG (K : PySem.W.Frag) (w : World) (mg : Str → Option Value) (aW : Addr) : Prop where
  mg : ∃ u, mg "SPECIAL_WORDS" = some u ∧ RelV (.ref aW) u
  at_ : SpecAt K w aW
section
variable {P : Program} {w : World} {K : PySem.W.Frag} {mg : Str → Option Value} {base : Heap} {aW : Addr}
abbrev sHasHead : Stmt := top 9
def spHasHead (K : PySem.W.Frag) : Sp := fun vs H Q _ => ∃ (f : Fn) (v : V), vs = [v] ∧ Rep K H f.enc v ∧ Q (.bl true) H
theorem scHasHead : FnScope ["function"] ["function"] (defScope sHasHead) := ⟨rfl, rfl, rfl, by decide +kernel, rfl, by decide +kernel, by decide +kernel⟩
theorem ok_has_head (B : Blt mg) (c_is_word : C8.Cal P w K mg base 1 "is_word" (spIsWord K) []) (g : GDef K mg "has_head" sHasHead []) : C8.Cal P w K mg base 2 "has_head" (spHasHead K) [] := by
  refine cal_of g scHasHead (fun _ _ _ _ _ _ us hl => match us, hl with | [_], _ => rfl) (fun vs H Q E h => ?_) (fun f cdv A outer s H vs Q E hr h => ?_)
  · obtain ⟨f, v, rfl, _⟩ := h; rfl
  obtain ⟨g0, v, rfl, hv, k⟩ := h
  refine ⟨_, (pss_one (ps_ret (pe_and (pe_not (C8.pe_c c_is_word hr (by decide) (by rfl) (pa_cons (pv 0) pa_nil))) (pe_and (pe_cmpR op_eq (pe_callB call_len_seq (by rfl) B.len boot_len (pa_cons (pv 0) pa_nil)) pe_int (nomark _)) (pe_and (C8.pe_c c_is_word hr (by decide) (by rfl) (pa_cons (pe_ix ix_tup (pv 0) pe_int (fun _ _ => rfl)) pa_nil)) (pe_one (pe_not (C8.pe_c c_is_word hr (by decide) (by rfl) (pa_cons (pe_ix ix_tup (pv 0) pe_int (fun _ _ => rfl)) pa_nil))))))))), ?_⟩
  obtain ⟨a, p, b, rfl, h1, h2, h3⟩ := repEnc hv
  refine ⟨_, rfl, g0.enc, _, rfl, hv, _, rfl, _, rfl, iteT ?_⟩
  refine ⟨_, rfl, a, _, rfl, .inr h1, rfl, _, rfl, iteT ?_⟩
  refine ⟨_, rfl, a, _, 0, _, rfl, rfl, h1, rfl, .w g0.name, _, rfl, rfl, _, rfl, iteT ?_⟩
  exact ⟨_, rfl, a, _, 1, _, rfl, rfl, h1, rfl, .l (g0.ps.map .w), _, rfl, ⟨p, _, rfl, h2, by
    have : ∀ ps : List Str, Reps K H (ps.map .w) (ps.map .str) := fun ps => by
      induction ps with
      | nil => rfl
      | cons x r ih => exact ⟨_, _, rfl, rfl, ih⟩
    exact this _⟩, _, rfl, k⟩
/-! ### counts_of -/
abbrev sCountsOf : Stmt := top 10
def spCountsOf (K : PySem.W.Frag) : Sp := fun vs H Q _ => ∃ (Pg : List Fn) (v : V), vs = [v] ∧ Rep K H (encP Pg) v ∧ (∀ f ∈ Pg, f.name ∉ specials.map (·.1)) ∧ (Pg.map (·.name)).Nodup ∧ Pg.length ≤ 1000000 ∧
  ∀ H' d, Same H H' → H d = none → H' d = some (.dK (cntK Pg)) → Q (.ref d) H'
theorem scCountsOf : FnScope ["program", "counts", "function"] ["program"] (defScope sCountsOf) := ⟨rfl, rfl, rfl, by decide +kernel, rfl, by decide +kernel, by decide +kernel⟩
theorem ok_counts_of (B : Blt mg) (G : SpecG K w mg aW) (c_has_head : C8.Cal P w K mg base 2 "has_head" (spHasHead K) []) (g : GDef K mg "counts_of" sCountsOf []) : C8.Cal P w K mg base 3 "counts_of" (spCountsOf K) [] := by
  refine cal_of g scCountsOf (fun _ _ _ _ _ _ us hl => match us, hl with | [_], _ => rfl) (fun vs H Q E h => ?_) (fun f cdv A outer s H vs Q E hr h => ?_)
  · obtain ⟨Pg, v, rfl, _⟩ := h; rfl
  obtain ⟨Pg, v, rfl, hv, hns, hnd, hlen, k⟩ := h
  have nd := scCountsOf.nd
  have hu := hu_of hr
  have hW := G.mg
  have SW := G.at_
  refine ⟨_, (pss_cons (ps_set (i := 1) nd rfl (.inl rfl) (pe_callTy (call_dictW SW) (by rfl) B.dict (by decide +kernel) (pa_cons (C8.pe_gc (v := .ref aW) rfl hW) pa_nil)))
    (pss_cons (ps_for PassesOwn.never rfl (pi_tup (pv 0)) (pg_name (i := 2) nd rfl (.inl rfl)) (pss_one (ps_if (PW.pt (pw_and (pt_val (C8.pe_c c_has_head hr (by decide) (by rfl) (pa_cons (pv 2) pa_nil))) (pw_and1 (pt_cmp (pc_dnotin hu (pe_ix ix_tup (pv 2) pe_int (fun _ _ => rfl)) (pv 1)))))) (pss_one (ps_dput hu (pv 1) (pe_ix ix_tup (pv 2) pe_int (fun _ _ => rfl)) (pe_callB call_len_seq (by rfl) B.len boot_len (pa_cons (pe_ix ix_tup (pv 2) pe_int (fun _ _ => rfl)) pa_nil)) rfl)) pss_nil)))
    (pss_one (ps_ret (pv 1))))), ?_⟩
  obtain ⟨a, vs, rfl, h1, h2⟩ := hv
  refine ⟨rfl, fun d hd => ?_⟩
  have S0 : Same H (upd H d (.dK specK)) := Same.new hd
  refine ⟨_, rfl, a, rfl, ⟨_, SqT.keep h1 fun b o h _ => S0 _ _ h⟩, ?_⟩
  have hvl : vs.length = Pg.length := by rw [h2.length, List.length_map]
  refine for_tup (K := K) (a := a) (xs := vs) (fun i σ H' => ∃ o2, σ = [some (.ref a), some (.ref d), o2] ∧ Same H H' ∧ H' d = some (.dK (cntK (Pg.take i)))) ⟨none, rfl, S0, by rw [upd_same]; simp [cntK]⟩ (fun i σ H' _ h => ?_) ?_ ?_
  · obtain ⟨_, _, S, _⟩ := h
    exact SqT.keep h1 fun b o h _ => S _ _ h
  · rintro i x σ H' hx ⟨o2, rfl, S, hD⟩
    obtain ⟨y, hy, hry⟩ := h2.get' hx
    rw [List.getElem?_map] at hy
    obtain ⟨f0, hf0, rfl⟩ := Option.map_eq_some_iff.mp hy
    have hr' : Rep K H' f0.enc x := Rep.keep (fun b o h _ => S _ _ h) hry
    obtain ⟨a1, p1, b1, rfl, q1, q2, q3⟩ := repEnc hr'
    have hi : i < Pg.length := (List.getElem?_eq_some_iff.mp hf0).1
    have n1 := hns f0 (List.mem_of_getElem? hf0)
    have n2 := notin_take (·.name) hnd hf0
    have hno := cntK_no n1 n2
    have hval : valV (cntK (Pg.take i)) (Sum.inr f0.name) = none := valV_no hno
    refine ⟨_, rfl, f0, _, rfl, hr', _, rfl, iteT ?_⟩
    refine ⟨_, rfl, a1, _, 0, _, rfl, rfl, q1, rfl, _, rfl, d, _, rfl, DGet.k (k := Sum.inr f0.name) hD, _, rfl, ?_⟩
    rw [hval]
    refine iteT ?_
    refine ⟨_, rfl, a1, _, 1, _, rfl, rfl, q1, rfl, p1, _, rfl, .inr q2, _, rfl, _, rfl, a1, _, 0, _, rfl, rfl, q1, rfl, d, _, rfl, DPut.k (k := Sum.inr f0.name) hD (by unfold cntK; rw [List.length_append, List.length_map, List.length_take]; exact small7 (by show 7 + _ ≤ _; omega)), ?_⟩
    refine ⟨_, rfl, fun b o h => ?_, ?_⟩
    · rw [upd_ne (fun e => by rw [e, hd] at h; cases h)]
      exact S _ _ h
    · rw [upd_same, putK_no hno, List.take_add_one, hf0, List.length_map]
      simp [cntK]
  · rintro σ H' ⟨o2, rfl, S, hD⟩
    rw [hvl, List.take_length] at hD
    exact ⟨_, rfl, k H' d S hd hD⟩
/-! ### name_fits -/
abbrev sNameFits : Stmt := top 11
def nameOk (z : Str) : Bool := match z.cps.toList with
  | [] => false
  | c :: _ => decide ((⟨#[c]⟩ : Str) ≠ "f") || (decide (Txt.slice z (some 1) none ≠ "") && decide (Txt.stripChars (Txt.slice z (some 1) none) "0123456789" ≠ ""))
def spNameFits : Sp := fun vs H Q _ => ∃ (z : Str) (d : Addr) (kvs : List (Key × V)) (n : Nat), vs = [.str z, .ref d, vI n] ∧ z ∉ specials.map (·.1) ∧ H d = some (.dK kvs) ∧ valV kvs (Sum.inr z) = none ∧ nameOk z = true ∧ z.length ≤ 1000 ∧ (Txt.slice z (some 1) none).length ≤ 1000 ∧ Q (.bl true) H
theorem scNameFits : FnScope ["name", "names", "many", "figures"] ["name", "names", "many"] (defScope sNameFits) := ⟨rfl, rfl, rfl, by decide +kernel, rfl, by decide +kernel, by decide +kernel⟩
theorem ok_name_fits (B : Blt mg) (G : SpecG K w mg aW) (hFig : ∃ u, mg "FIGURES" = some u ∧ RelV (.str "0123456789") u) (g : GDef K mg "name_fits" sNameFits []) : C8.Cal P w K mg base 1 "name_fits" spNameFits [] := by
  refine cal_of g scNameFits (fun _ _ _ _ _ _ us hl => match us, hl with | [_, _, _], _ => rfl) (fun vs H Q E h => ?_) (fun f cdv A outer s H vs Q E hr h => ?_)
  · obtain ⟨z, d, kvs, n, rfl, _⟩ := h; rfl
  obtain ⟨z, d, kvs, n, rfl, h1, h2, h3, h4, h5, h6, k⟩ := h
  have nd := scNameFits.nd
  have hu := hu_of hr
  have hW := G.mg
  have SW := G.at_
  refine ⟨_, (pss_cons (ps_if (PW.pt (pw_or (pt_cmpR (op_inW SW) (pv 0) (C8.pe_gc (v := .ref aW) rfl hW) (by rfl)) (pw_or1 (pt_cmp (pc_din hu (pv 0) (pv 1)))))) (pss_one (ps_ret pe_bl)) pss_nil)
    (pss_cons (ps_set (i := 3) nd rfl (.inl rfl) (pe_slice C8.sl_txt (pv 0) (po_some pe_int) po_none))
    (pss_cons (ps_if (PW.pt (pw_or (pt_cmpR op_ne (pe_ix ix_str (pv 0) pe_int (fun _ _ => rfl)) pe_str (nomark _)) (pw_or (pt_cmpR op_eq (pv 3) pe_str (nomark _)) (pw_or1 (pt_cmpR op_ne (pe_m1 PySem.F.slot_str_strip PySem.F.type_str_strip mt_stripChars (pv 3) (C8.pe_gc (v := .str "0123456789") rfl hFig)) pe_str (nomark _)))))) (pss_one (ps_ret pe_bl)) pss_nil)
    pss_never))), ?_⟩
  refine ⟨_, rfl, z, rfl, rfl, _, rfl, iteN (decide_eq_false h1) ⟨_, rfl, _, rfl, d, _, rfl, DGet.k (k := Sum.inr z) h2, _, rfl, ?_⟩⟩
  rw [h3]
  refine iteF ?_
  have hzl : z.length ≤ sizeLine := Nat.le_trans h5 (by decide)
  refine ⟨_, rfl, _, rfl, z, rfl, hzl, ?_⟩
  unfold nameOk at h4
  cases q : z.cps.toList with
  | nil => rw [q] at h4; cases h4
  | cons c r =>
    rw [q] at h4
    dsimp only at h4
    refine ⟨_, rfl, z, 0, c, rfl, rfl, hzl, atI_nat (xs := z.cps.toList) (j := 0) (v := c) (by rw [q]; rfl), rfl, _, rfl, ?_⟩
    rw [dec_str]
    by_cases e1 : (⟨#[c]⟩ : Str) = "f"
    · rw [decide_eq_false (fun h => h e1), Bool.false_or, Bool.and_eq_true] at h4
      obtain ⟨e2, e3⟩ := h4
      have e2' := of_decide_eq_true e2
      have e3' := of_decide_eq_true e3
      rw [e1]
      refine iteN (by rfl) ⟨_, rfl, rfl, _, rfl, ?_⟩
      have sl : (Txt.slice z (some 1) none).length ≤ sizeLine := Nat.le_trans h6 (by decide)
      refine iteN (decide_eq_false (fun h => e2' (by injection h))) ⟨_, rfl, ⟨_, rfl⟩, _, _, rfl, rfl, sl, rfl, _, rfl, ?_⟩
      rw [dec_str]
      refine iteP (by rw [beq_eq_false_iff_ne.mpr e3'] <;> rfl) k
    · exact iteP (by rw [beq_eq_false_iff_ne.mpr e1] <;> rfl) k
end
end Og
/-! list.extend(tuple). -/
namespace Og
open PySem PySem.Spec PyProof.Rows L2
theorem meets_extT (l : Addr) (items : Array Value) (n : Nat) (b : Addr) (items2 : Array Value) (n2 : Nat) (dct : Option Addr) (sl : Array (Option Value)) (hs0 : ¬(!items.isEmpty && Builtin.List.listTooLong (items.size + items2.size)) = true) (hs1 : items.size ≤ sizeLine) (hs2 : items.size + items2.size ≤ sizeLine + 1 := by seq_fits) :
    Meets (Builtin.«list.extend» ⟨[.ref l, .ref b], []⟩) (fun _ R s => s.heap.get? l = some { cls := .type "list", dict := none, data := .seq items n, slots := #[] } ∧ s.heap.get? b = some { cls := .type "tuple", dict := dct, data := .seq items2 n2, slots := sl } ∧ R (.ok (.ret Value.none)) { s with heap := s.heap.update l (Obj.mapSeq fun x => x ++ items2), toks := s.toks }) :=
  .of_wp fun prog w A R s h => by
    obtain ⟨hp, g, d, tk, os⟩ := s; obtain ⟨hl, hb, h⟩ := h; have f1 := AutoSeq1.idx_int; have f2 := sub_tuple_tuple; have f3 := sub_list_list; have f4 := sub_tuple_list; have f5 := sub_list_tuple;
    have hz' : (items ++ items2).size ≤ sizeLine + 1 := by rw [Array.size_append]; exact hs2
    wp_walk using (wpAny_updateSeq hl rfl (hz := hs1) (_hz' := hz')), wpAny_loadPart' hl, wpAny_loadPart' hb; exact ⟨_, rfl, h⟩
def rExtT (K : PySem.W.Frag) : V → List V → Hp → VK → Prop := fun x vs H Q => ∃ l b xs zs, x = .ref l ∧ vs = [.ref b] ∧ H l = some (.lst xs) ∧ SqT K H b zs ∧ xs.length + zs.length ≤ sizeLine ∧ Q .non (upd H l (.lst (xs ++ zs)))
theorem mt_extT {X : Cx} : MtR X "list.extend" (rExtT X.K) := by
  intro pins s σ H x vs v us Q I rx rv h
  obtain ⟨l, b, xs, zs, rfl, rfl, hH, hB, hz, q⟩ := h
  cases rx
  obtain ⟨u, rfl, ru⟩ := rv.one
  cases ru
  obtain ⟨z, its, n, r, hl, e⟩ := I.lstM hH
  obtain ⟨its2, r2, hb, z2⟩ := I.tuple hB
  obtain ⟨o, ho, hc, n2, hd⟩ := hb
  obtain ⟨oc, odd, odt, osl⟩ := o
  have hc' : oc = .type "tuple" := hc
  have hd' : odt = .seq its2.toArray n2 := hd
  subst hc' hd'
  have hl2 := r2.length
  have hsz : its.toArray.size + its2.toArray.size ≤ sizeLine := by rw [List.size_toArray, List.size_toArray]; omega
  have hlong : ¬ (!its.toArray.isEmpty && Builtin.List.listTooLong (its.toArray.size + its2.toArray.size)) = true := by
    rw [notLongL hsz, Bool.and_false]
    exact Bool.false_ne_true
  refine call_meets F.slot_list_extend ⟨_, e, rfl⟩ F.entry_list_extend (F.args_list_extend_2 _ _)
    (meets_extT l its.toArray n b its2.toArray n2 odd osl hlong (by rw [List.size_toArray]; omega) (by omega)) ⟨e, ho, ?_⟩
  refine ⟨.non, _, I.lset (its' := its ++ its2) hH e (by simp) (r.append r2) ?_, rfl, q⟩
  rw [List.length_append]
  omega
end Og
/-! parameters_fit, body_fits. -/
namespace Og
open PySem PySem.Spec L2
theorem m1_ {X : Cx} {o e : Expr} {m : Str} {apos cpos : Pos} (h1 : attributeBase o m X.env (eval o X.env) = eval o X.env := by rfl)
    (h2 : ((backTo cpos (starEach [e] X.env)).all (fun x => !x.1) && (backToKw cpos (keywordEach [] X.env)).all (fun x => x.1.isSome)
    && decide (([e] : List Expr).length + ([] : List Keyword).length + (if ([] : List Keyword).isEmpty then 0 else 1) < 30)) = true := by rfl)
    (h3 : (apos.endLine == cpos.line) = true := by rfl) (h4 : backTo cpos (starEach [e] X.env) = [(false, eval e X.env)] := by rfl) : M1 X o m apos e cpos := ⟨h1, h2, h3, h4⟩
theorem cutV_to (xs : List V) (n : Nat) (h : n ≤ xs.length) : cutV xs none (some (n : Int)) = xs.take n := by
  unfold cutV
  rw [HT.sIx_nat, HT.sIx_none, show min n xs.length = n by omega, Nat.sub_zero, List.drop_zero]
section
variable {P : Program} {w : World} {K : PySem.W.Frag} {mg : Str → Option Value} {base : Heap} {aW : Addr}
abbrev sParametersFit : Stmt := top 12
def spParametersFit (K : PySem.W.Frag) : Sp := fun vs H Q _ => ∃ (p : Addr) (ps : List Str), vs = [.ref p] ∧ SqT K H p (ps.map .str) ∧ ps.length ≤ 12 ∧ ps.Nodup ∧ (∀ x ∈ ps, x ∉ specials.map (·.1)) ∧ ∀ H', Same H H' → Q (.bl true) H'
theorem scParametersFit : FnScope ["parameters", "at", "parameter"] ["parameters"] (defScope sParametersFit) := ⟨rfl, rfl, rfl, by decide +kernel, rfl, by decide +kernel, by decide +kernel⟩
theorem ok_parameters_fit (B : Blt mg) (G : SpecG K w mg aW) (hMP : ∃ t, mg "MOST_PARAMETERS" = some (.int 12 t)) (c_is_word : C8.Cal P w K mg base 1 "is_word" (spIsWord K) []) (g : GDef K mg "parameters_fit" sParametersFit []) : C8.Cal P w K mg base 2 "parameters_fit" (spParametersFit K) [] := by
  refine cal_of g scParametersFit (fun _ _ _ _ _ _ us hl => match us, hl with | [_], _ => rfl) (fun vs H Q E h => ?_) (fun f cdv A outer s H vs Q E hr h => ?_)
  · obtain ⟨p, ps, rfl, _⟩ := h; rfl
  obtain ⟨p, ps, rfl, hp, h12, hnd, hns, k⟩ := h
  have nd := scParametersFit.nd
  have hu := hu_of hr
  have hW := G.mg
  have SW := G.at_
  refine ⟨_, (pss_cons (ps_if (pt_cmpR op_gt (pe_callB call_len_seq (by rfl) B.len boot_len (pa_cons (pv 0) pa_nil)) (C8.pe_gc (v := .int 12) rfl (cstI hMP)) (nomark _)) (pss_one (ps_ret pe_bl)) pss_nil)
    (pss_cons (ps_for PassesOwn.never rfl (pi_enumT rfl B.enumerate (pa_cons (pv 0) pa_nil)) (pg_tup rfl (pgs_cons (pg_name (i := 1) nd rfl (.inl rfl)) (pgs_cons (pg_name (i := 2) nd rfl (.inl rfl)) pgs_nil))) (pss_one (ps_if (PW.pt (pw_or (pt_not (pt_val (C8.pe_c c_is_word hr (by decide) (by rfl) (pa_cons (pv 2) pa_nil)))) (pw_or (pt_cmpR (op_inW SW) (pv 2) (C8.pe_gc (v := .ref aW) rfl hW) (by rfl)) (pw_or1 (pt_cmpR op_in_seq (pv 2) (pe_slice sl_tup (pv 0) po_none (po_some (pv 1))) (by rfl)))))) (pss_one (ps_ret pe_bl)) pss_nil)))
    (pss_one (ps_ret pe_bl)))), ?_⟩
  refine ⟨_, rfl, p, _, rfl, .inr hp, _, _, rfl, rfl, _, rfl, iteN (decide_eq_false (by rw [List.length_map]; omega)) ?_⟩
  refine ⟨_, rfl, p, _, rfl, hp, ?_⟩
  refine for_enumT (K := K) (a := p) (xs := ps.map .str) (fun i σ H' => ∃ o1 o2, σ = [some (.ref p), o1, o2] ∧ Same H H') ⟨none, none, rfl, fun _ _ h => h⟩ (fun i σ H' h => ?_) ?_ ?_
  · obtain ⟨_, _, _, S⟩ := h
    exact SqT.keep hp fun b o h _ => S _ _ h
  · rintro i x T' σ H' hx ⟨o1, o2, rfl, S⟩ hT'
    rw [List.getElem?_map] at hx
    obtain ⟨z, hz, rfl⟩ := Option.map_eq_some_iff.mp hx
    have hil : i < ps.length := (List.getElem?_eq_some_iff.mp hz).1
    have S1 : Same H' (upd H' T' (.tup [.int (i : Nat), .str z])) := Same.new hT'
    refine ⟨T', _, rfl, SqT.of upd_same, rfl, _, _, rfl, _, _, rfl, rfl, ?_⟩
    have hp1 : SqT K (upd H' T' (.tup [.int (i : Nat), .str z])) p (ps.map .str) := SqT.keep hp fun b o h _ => S1 _ _ (S _ _ h)
    refine ⟨_, rfl, .w z, _, rfl, rfl, _, rfl, iteF ⟨_, rfl, z, rfl, rfl, _, rfl, iteN (decide_eq_false (hns z (List.mem_of_getElem? hz))) ?_⟩⟩
    refine ⟨_, rfl, _, rfl, _, rfl, _, rfl, p, _, rfl, hp1, ?_, fun q hq => ?_⟩
    · rintro ⟨_, h2⟩
      rw [HT.sIx_nat, List.length_map] at h2
      omega
    rw [cutV_to _ _ (by rw [List.length_map]; omega), ← List.map_take]
    refine ⟨q, _, rfl, .inr (SqT.of upd_same), rfl, ?_, _, rfl, ?_⟩
    · rw [List.all_map, List.all_eq_true]
      intro y hy
      rfl
    show if inV (V.str z) (List.map V.str (ps.take i)) = true then _ else _
    rw [inStr]
    refine iteN (decide_eq_false (fun h => ?_)) ⟨_, _, rfl, S.trans (S1.trans (Same.new hq))⟩
    have := notin_take (fun x : Str => x) (l := ps) (by rw [List.map_id']; exact hnd) hz
    rw [List.map_id'] at this
    exact this h
  · rintro σ H' ⟨o1, o2, rfl, S⟩
    exact k H' S
/-! ### body_fits -/
mutual
def wfB (ps : List Str) (kvs : List (Key × V)) : PV → Bool
  | .w x => decide (x ∈ ps)
  | .l [] => false
  | .l (.l _ :: _) => false
  | .l (.w k :: es) => decide (valV kvs (Sum.inr k) = some (vI es.length)) && (decide (k = "quote") || wfBs ps kvs es)
def wfBs (ps : List Str) (kvs : List (Key × V)) : List PV → Bool
  | [] => true
  | x :: r => wfB ps kvs x && wfBs ps kvs r
end
theorem wfBs_app {ps : List Str} {kvs : List (Key × V)} : ∀ {a b : List PV}, wfBs ps kvs (a ++ b) = (wfBs ps kvs a && wfBs ps kvs b)
  | [], b => by simp [wfBs]
  | x :: a, b => by rw [List.cons_append, wfBs, wfBs, wfBs_app, Bool.and_assoc]
theorem len_pszs : ∀ (a : List PV), a.length ≤ pszs a
  | [] => by simp
  | x :: a => by
    have h1 := len_pszs a
    have h2 : 0 < psz x := by cases x <;> simp [psz] <;> omega
    simp only [List.length_cons, pszs]
    omega
theorem reps_snoc {K : PySem.W.Frag} {H : Hp} {a : List PV} {x : PV} {us : List V} (h : Reps K H (a ++ [x]) us) : ∃ us' u, us = us' ++ [u] ∧ Reps K H a us' ∧ Rep K H x u := by
  induction a generalizing us with
  | nil =>
    obtain ⟨v, r, rfl, h1, h2⟩ := h
    cases (show r = [] from h2)
    exact ⟨[], v, rfl, rfl, h1⟩
  | cons y a ih =>
    obtain ⟨v, r, rfl, h1, h2⟩ := h
    obtain ⟨us', u, rfl, h3, h4⟩ := ih h2
    exact ⟨v :: us', u, rfl, ⟨_, _, rfl, h1, h3⟩, h4⟩
abbrev sBodyFits : Stmt := top 13
def spBodyFits (K : PySem.W.Frag) : Sp := fun vs H Q _ => ∃ (x : PV) (v : V) (p d : Addr) (ps : List Str) (kvs : List (Key × V)), vs = [v, .ref p, .ref d] ∧ Rep K H x v ∧ SqT K H p (ps.map .str) ∧ H d = some (.dK kvs) ∧ wfB ps kvs x = true ∧ psz x ≤ 1000000 ∧ ∀ H', Same H H' → Q (.bl true) H'
theorem scBodyFits : FnScope ["body", "parameters", "counts", "waiting", "expression"] ["body", "parameters", "counts"] (defScope sBodyFits) := ⟨rfl, rfl, rfl, by decide +kernel, rfl, by decide +kernel, by decide +kernel⟩
theorem ok_body_fits (B : Blt mg) (c_is_word : C8.Cal P w K mg base 1 "is_word" (spIsWord K) []) (g : GDef K mg "body_fits" sBodyFits []) : C8.Cal P w K mg base 2 "body_fits" (spBodyFits K) [] := by
  refine cal_of g scBodyFits (fun _ _ _ _ _ _ us hl => match us, hl with | [_, _, _], _ => rfl) (fun vs H Q E h => ?_) (fun f cdv A outer s H vs Q E hr h => ?_)
  · obtain ⟨x, v, p, d, ps, kvs, rfl, _⟩ := h; rfl
  obtain ⟨x, v, p, d, ps, kvs, rfl, hx, hp, hd, hwf, hsz, k⟩ := h
  have nd := scBodyFits.nd
  have hu := hu_of hr
  refine ⟨_, (pss_cons (ps_set (i := 3) nd rfl (.inl rfl) (pe_lst (pa_cons (pv 0) pa_nil)))
    (pss_cons (ps_while PassesOwn.never (pt_cmpR op_gt (pe_callB call_len_seq (by rfl) B.len boot_len (pa_cons (pv 3) pa_nil)) pe_int (nomark _)) (pss_cons (ps_set (i := 4) nd rfl (.inl rfl) (pe_bm0 PySem.F.plainAttrs_list PySem.F.slot_list_pop PySem.F.type_list_pop mt_pop (pv 3)))
    (pss_one (ps_if (pt_val (C8.pe_c c_is_word hr (by decide) (by rfl) (pa_cons (pv 4) pa_nil))) (pss_one (ps_if (pt_cmpR op_notIn_seq (pv 4) (pv 1) (by rfl)) (pss_one (ps_ret pe_bl)) pss_nil)) (pss_one (ps_if (PW.pt (pw_or (pt_cmpR op_eq (pe_callB call_len_seq (by rfl) B.len boot_len (pa_cons (pv 4) pa_nil)) pe_int (nomark _)) (pw_or1 (pt_not (pt_val (C8.pe_c c_is_word hr (by decide) (by rfl) (pa_cons (pe_ix ix_tup (pv 4) pe_int (fun _ _ => rfl)) pa_nil))))))) (pss_one (ps_ret pe_bl)) (pss_one (ps_if (pt_cmpR op_ne (pe_dget1 hu (pv 2) (pe_ix ix_tup (pv 4) pe_int (fun _ _ => rfl)) m1_) (pe_op op_sub (pe_callB call_len_seq (by rfl) B.len boot_len (pa_cons (pv 4) pa_nil)) pe_int) (nomark _)) (pss_one (ps_ret pe_bl)) (pss_one (ps_if (pt_cmpR op_ne (pe_ix ix_tup (pv 4) pe_int (fun _ _ => rfl)) pe_str (nomark _)) (pss_one (ps_expr (pe_bm PySem.F.plainAttrs_list PySem.F.slot_list_extend PySem.F.type_list_extend mt_extT (pv 3) (pa_cons (pe_slice sl_tup (pv 4) (po_some pe_int) po_none) pa_nil)))) pss_nil))))))))))
    (pss_one (ps_ret pe_bl)))), ?_⟩
  refine ⟨_, rfl, (by show 1 ≤ sizeLine; decide), fun lw hlw => ?_⟩
  have hwx : wfBs ps kvs [x] = true := by simp [wfBs, hwf]
  refine ⟨fun m σ H' => ∃ (ws : List PV) (us : List V) (o4 : Option V), σ = [some v, some (.ref p), some (.ref d), some (.ref lw), o4] ∧ (∀ b o, H b = some o → H' b = some o) ∧ H' lw = some (.lst us) ∧ Reps K H' ws us ∧ wfBs ps kvs ws = true ∧ m = pszs ws ∧ pszs ws ≤ 1000000,
    ⟨_, [x], [v], none, rfl, Same.new hlw, upd_same, ⟨_, _, rfl, Rep.keep (fun b o h _ => (Same.new hlw) _ _ h) hx, rfl⟩, hwx, rfl, by simp only [pszs]; omega⟩, ?_⟩
  rintro m σ H' ⟨ws, us, o4, rfl, S, hw, hR, hwf', rfl, hm⟩
  have hul := hR.length
  refine ⟨_, rfl, lw, _, rfl, .inl (SqL.of hw), _, _, rfl, rfl, _, rfl, ?_⟩
  rcases List.eq_nil_or_concat ws with rfl | ⟨ws', y, rfl⟩
  · rw [hul]
    exact iteF (k H' S)
  rw [List.concat_eq_append] at hR hwf' hm hul
  obtain ⟨us', u, rfl, hR', hy⟩ := reps_snoc hR
  rw [wfBs_app, Bool.and_eq_true] at hwf'
  obtain ⟨hwa, hwb⟩ := hwf'
  simp only [wfBs, Bool.and_true] at hwb
  rw [pszs_app] at hm
  simp only [pszs, Nat.add_zero] at hm
  have hus' := hR'.length
  have hl' := len_pszs ws'
  have hypos : 0 < psz y := by cases y <;> simp [psz] <;> omega
  refine iteP (decide_eq_true (by rw [List.length_append, List.length_singleton]; omega)) ?_
  refine ⟨fun σ' H2 => ∃ m', m' < pszs (ws'.concat y) ∧ ∃ (ws : List PV) (us : List V) (o4 : Option V), σ' = [some v, some (.ref p), some (.ref d), some (.ref lw), o4] ∧ (∀ b o, H b = some o → H2 b = some o) ∧ H2 lw = some (.lst us) ∧ Reps K H2 ws us ∧ wfBs ps kvs ws = true ∧ m' = pszs ws ∧ pszs ws ≤ 1000000, fun _ _ h => h, ?_⟩
  rw [List.concat_eq_append, pszs_app]
  simp only [pszs, Nat.add_zero]
  refine ⟨_, rfl, .inl ⟨rfl, _, SqL.of hw⟩, lw, _, _, rfl, rfl, hw, (popR _ _).1, ?_⟩
  rw [(popR _ _).2]
  have fF : ∀ b o, H' b = some o → Fix o → upd H' lw (.lst us') b = some o := fun b o h hf => by
    rw [upd_ne (fun e => by rw [e, hw] at h; cases h; exact hf)]
    exact h
  have S1 : ∀ b o, H b = some o → upd H' lw (.lst us') b = some o := fun b o h => by
    rw [upd_ne (ne_of_none h hlw)]
    exact S _ _ h
  have hw1 : upd H' lw (.lst us') lw = some (.lst us') := upd_same
  have hR1 : Reps K (upd H' lw (.lst us')) ws' us' := Reps.keep fF hR'
  have hy1 : Rep K (upd H' lw (.lst us')) y u := Rep.keep fF hy
  generalize upd H' lw (.lst us') = H1 at S1 hw1 hR1 hy1 ⊢
  have hp1 : SqT K H1 p (ps.map .str) := SqT.keep hp fun b o h _ => S1 _ _ h
  refine ⟨_, rfl, y, u, rfl, hy1, _, rfl, ?_⟩
  cases y with
  | w z =>
    cases (show u = .str z from hy1)
    refine iteT ⟨_, rfl, _, rfl, p, _, rfl, .inr hp1, rfl, ?_, _, rfl, ?_⟩
    · rw [List.all_map, List.all_eq_true]
      intro y hy
      rfl
    show if (!inV (V.str z) (List.map V.str ps)) = true then _ else _
    rw [inStr]
    unfold wfB at hwb
    rw [hwb]
    exact iteF ⟨pszs ws', by omega, ws', us', _, rfl, S1, hw1, hR1, hwa, rfl, by omega⟩
  | l es0 =>
    obtain ⟨a, vs, rfl, hsa, hra⟩ := id hy1
    cases es0 with
    | nil => simp [wfB] at hwb
    | cons y0 es =>
      cases y0 with
      | l _ => simp [wfB] at hwb
      | w kw =>
        obtain ⟨v0, r0, rfl, hv0, hr0⟩ := hra
        cases (show v0 = .str kw from hv0)
        have hrl := hr0.length
        rw [wfB, Bool.and_eq_true] at hwb
        obtain ⟨w1, w2⟩ := hwb
        have w1' := of_decide_eq_true w1
        refine iteF ⟨_, rfl, a, _, rfl, .inr hsa, rfl, _, rfl, iteN (decide_eq_false (fun z => by rw [List.length_cons] at z; injection z with z; omega)) ?_⟩
        refine ⟨_, rfl, a, _, 0, _, rfl, rfl, hsa, atI_of (i := 0) rfl, .w kw, _, rfl, rfl, _, rfl, iteF ?_⟩
        have hd1 := S1 _ _ hd
        refine ⟨_, rfl, d, rfl, .inl ⟨_, .inl hd1⟩, _, rfl, a, _, 0, _, rfl, rfl, hsa, atI_of (i := 0) rfl, _, DGet.k (k := Sum.inr kw) hd1, ?_⟩
        rw [w1']
        refine ⟨_, rfl, a, _, rfl, .inr hsa, _, _, rfl, rfl, rfl, _, rfl, ?_⟩
        refine iteN (by
          rw [show (some (vI es.length)).getD V.non = vI es.length from rfl, decide_eq_true]
          · rfl
          · show V.int _ = V.int _
            rw [List.length_cons, hrl]
            congr 1
            omega) ?_
        refine ⟨_, rfl, a, _, 0, _, rfl, rfl, hsa, atI_of (i := 0) rfl, rfl, _, rfl, ?_⟩
        rw [dec_str]
        simp only [psz, pszs] at hm ⊢
        by_cases hq : kw = "quote"
        · refine iteN (by rw [hq]; rfl) ⟨pszs ws', by omega, ws', us', _, rfl, S1, hw1, hR1, hwa, rfl, by omega⟩
        · rw [decide_eq_false hq, Bool.false_or] at w2
          refine iteP (by rw [beq_eq_false_iff_ne.mpr hq] <;> rfl) ?_
          refine ⟨_, rfl, .inl ⟨rfl, _, SqL.of hw1⟩, _, rfl, _, rfl, a, _, rfl, hsa, ?_, fun q hq0 => ?_⟩
          · rintro ⟨h2, _⟩
            have := HT.sIx_nat (V.str kw :: r0).length 0 1
            rw [show (some 1 : Option Int) = some ((1 : Nat) : Int) from rfl, this, List.length_cons] at h2
            omega
          rw [cutV_tail]
          have S2 : Same H1 (upd H1 q (.tup r0)) := Same.new hq0
          have hq2 : upd H1 q (.tup r0) q = some (.tup r0) := upd_same
          have hw2 := S2 _ _ hw1
          have hel := len_pszs es
          refine ⟨lw, q, _, _, rfl, rfl, hw2, SqT.of hq2, Nat.le_of_lt (small7 (by omega)), ?_⟩
          refine ⟨pszs (ws' ++ es), by rw [pszs_app]; omega, ws' ++ es, us' ++ r0, _, rfl, fun b o h => ?_, upd_same, ?_, by rw [wfBs_app, hwa, w2] <;> rfl, rfl, by rw [pszs_app]; omega⟩
          · rw [upd_ne (ne_of_none h hlw)]
            exact S2 _ _ (S1 _ _ h)
          · exact Reps.keep (fun b o h hf => by
              rw [upd_ne (fun e => by rw [e, hw1] at h; cases h; exact hf)]
              exact S2 _ _ h) (hR1.append hr0)
end
end Og
/-! check_program, inputs_of, universal. -/
namespace Og
open PySem PySem.Spec L2
structure OkP (Pg : List Fn) : Prop where
  ne : Pg ≠ []
  nd : (Pg.map (·.name)).Nodup
  len : Pg.length ≤ 1000
  ns : ∀ f ∈ Pg, f.name ∉ specials.map (·.1)
  nm : ∀ f ∈ Pg, nameOk f.name = true ∧ f.name.length ≤ 1000 ∧ (Txt.slice f.name (some 1) none).length ≤ 1000
  ps : ∀ f ∈ Pg, f.ps.length ≤ 12 ∧ f.ps.Nodup ∧ ∀ x ∈ f.ps, x ∉ specials.map (·.1)
  wf : ∀ f ∈ Pg, wfB f.ps (cntK Pg) f.body = true ∧ psz f.body ≤ 1000000
section
variable {P : Program} {w : World} {K : PySem.W.Frag} {mg : Str → Option Value} {base : Heap} {aW aU : Addr}
def nmK (Pg : List Fn) : List (Key × V) := Pg.map fun f => (Sum.inr f.name, .bl true)
abbrev sCheckProgram : Stmt := top 14
abbrev nCheckProgram : List Str := ["value", "counts", "names", "number", "function", "name", "parameters", "body"]
def spCheckProgram (K : PySem.W.Frag) : Sp := fun vs H Q _ => ∃ (Pg : List Fn) (v : V), vs = [v] ∧ Rep K H (encP Pg) v ∧ OkP Pg ∧ ∀ H', Same H H' → Q .non H'
theorem scCheckProgram : FnScope nCheckProgram ["value"] (defScope sCheckProgram) := ⟨rfl, rfl, rfl, by decide +kernel, rfl, by decide +kernel, by decide +kernel⟩
theorem ok_check_program (B : Blt mg) (c_is_word : C8.Cal P w K mg base 1 "is_word" (spIsWord K) []) (c_has_head : C8.Cal P w K mg base 2 "has_head" (spHasHead K) []) (c_counts_of : C8.Cal P w K mg base 3 "counts_of" (spCountsOf K) [])
    (c_name_fits : C8.Cal P w K mg base 1 "name_fits" spNameFits []) (c_parameters_fit : C8.Cal P w K mg base 2 "parameters_fit" (spParametersFit K) []) (c_body_fits : C8.Cal P w K mg base 2 "body_fits" (spBodyFits K) [])
    (g : GDef K mg "check_program" sCheckProgram []) : C8.Cal P w K mg base 4 "check_program" (spCheckProgram K) [] := by
  refine cal_of g scCheckProgram (fun _ _ _ _ _ _ us hl => match us, hl with | [_], _ => rfl) (fun vs H Q E h => ?_) (fun f cdv A outer s H vs Q E hr h => ?_)
  · obtain ⟨Pg, v, rfl, _⟩ := h; rfl
  obtain ⟨Pg, v, rfl, hv, ok, k⟩ := h
  have nd := scCheckProgram.nd
  have hu := hu_of hr
  refine ⟨_, (pss_cons (ps_if (PW.pt (pw_or (pt_val (C8.pe_c c_is_word hr (by decide) (by rfl) (pa_cons (pv 0) pa_nil))) (pw_or1 (pt_cmpR op_eq (pe_callB call_len_seq (by rfl) B.len boot_len (pa_cons (pv 0) pa_nil)) pe_int (nomark _))))) (pss_one ps_never) pss_nil)
    (pss_cons (ps_set (i := 1) nd rfl (.inl rfl) (C8.pe_c c_counts_of hr (by decide) (by rfl) (pa_cons (pv 0) pa_nil)))
    (pss_cons (ps_set (i := 2) nd rfl (.inl rfl) pe_dnewK)
    (pss_one (ps_for PassesOwn.never rfl (pi_enumT rfl B.enumerate (pa_cons (pv 0) pa_nil)) (pg_tup rfl (pgs_cons (pg_name (i := 3) nd rfl (.inl rfl)) (pgs_cons (pg_name (i := 4) nd rfl (.inl rfl)) pgs_nil))) (pss_cons (ps_if (pt_not (pt_val (C8.pe_c c_has_head hr (by decide) (by rfl) (pa_cons (pv 4) pa_nil)))) (pss_one ps_never) pss_nil)
    (pss_cons (ps_asg (pv 4) (pg_tup rfl (pgs_cons (pg_name (i := 5) nd rfl (.inl rfl)) (pgs_cons (pg_name (i := 6) nd rfl (.inl rfl)) (pgs_cons (pg_name (i := 7) nd rfl (.inl rfl)) pgs_nil)))))
    (pss_cons (ps_if (PW.pt (pw_or (pt_not (pt_val (C8.pe_c c_name_fits hr (by decide) (by rfl) (pa_cons (pv 5) (pa_cons (pv 2) (pa_cons (pe_callB call_len_seq (by rfl) B.len boot_len (pa_cons (pv 0) pa_nil)) pa_nil)))))) (pw_or1 (pt_not (pt_val (C8.pe_c c_parameters_fit hr (by decide) (by rfl) (pa_cons (pv 6) pa_nil))))))) (pss_one ps_never) pss_nil)
    (pss_cons (ps_if (pt_not (pt_val (C8.pe_c c_body_fits hr (by decide) (by rfl) (pa_cons (pv 7) (pa_cons (pv 6) (pa_cons (pv 1) pa_nil)))))) (pss_one ps_never) pss_nil)
    (pss_one (ps_dput hu (pv 2) (pv 5) pe_bl rfl))))))))))), ?_⟩
  obtain ⟨a, vs, rfl, h1, h2⟩ := id hv
  have hvl : vs.length = Pg.length := by rw [h2.length, List.length_map]
  have hne : vs.length ≠ 0 := by rw [hvl]; exact fun e => ok.ne (List.length_eq_zero_iff.mp e)
  have hlen := ok.len
  refine ⟨_, rfl, encP Pg, _, rfl, hv, _, rfl, iteF ⟨_, rfl, a, _, rfl, .inr h1, rfl, _, rfl, iteN (decide_eq_false (fun z => by injection z with z; omega)) ?_⟩⟩
  refine ⟨_, rfl, Pg, _, rfl, hv, ok.ns, ok.nd, by omega, fun H1 dc S1 dc0 hdc => ?_⟩
  refine fun dn hdn => ?_
  have S2 : Same H (upd H1 dn (.dK [])) := S1.trans (Same.new hdn)
  have hdc2 : upd H1 dn (.dK []) dc = some (.dK (cntK Pg)) := (Same.new hdn) _ _ hdc
  have hdn2 : upd H1 dn (.dK []) dn = some (.dK []) := upd_same
  have dn0 : H dn = none := Same.free S1 hdn
  have ndc : dc ≠ dn := ne_of_none hdc hdn
  generalize upd H1 dn (.dK []) = H2 at S2 hdc2 hdn2 ⊢
  refine ⟨_, rfl, a, _, rfl, SqT.keep h1 fun b o h _ => S2 _ _ h, ?_⟩
  refine for_enumT (K := K) (a := a) (xs := vs) (fun i σ H' => ∃ o3 o4 o5 o6 o7, σ = [some (.ref a), some (.ref dc), some (.ref dn), o3, o4, o5, o6, o7] ∧ Same H H' ∧ H' dc = some (.dK (cntK Pg)) ∧ H' dn = some (.dK (nmK (Pg.take i)))) ⟨none, none, none, none, none, rfl, S2, hdc2, hdn2⟩ (fun i σ H' h => ?_) ?_ ?_
  · obtain ⟨_, _, _, _, _, _, S, _⟩ := h
    exact SqT.keep h1 fun b o h _ => S _ _ h
  · rintro i x T' σ H' hx ⟨o3, o4, o5, o6, o7, rfl, S, hC, hN⟩ hT'
    obtain ⟨y, hy, hry⟩ := h2.get' hx
    rw [List.getElem?_map] at hy
    obtain ⟨f0, hf0, rfl⟩ := Option.map_eq_some_iff.mp hy
    have hmem := List.mem_of_getElem? hf0
    have hil : i < Pg.length := (List.getElem?_eq_some_iff.mp hf0).1
    have S3 : Same H' (upd H' T' (.tup [.int (i : Nat), x])) := Same.new hT'
    have hT3 : upd H' T' (.tup [.int (i : Nat), x]) T' = some (.tup [.int (i : Nat), x]) := upd_same
    have hC3 := S3 _ _ hC
    have hN3 := S3 _ _ hN
    have S03 := S.trans S3
    generalize upd H' T' (.tup [.int (i : Nat), x]) = H3 at S3 hT3 hC3 hN3 S03 ⊢
    refine ⟨T', _, rfl, SqT.of hT3, rfl, _, _, rfl, _, _, rfl, rfl, ?_⟩
    have hr' : Rep K H3 f0.enc x := Rep.keep (fun b o h _ => S03 _ _ h) hry
    obtain ⟨a1, p1, b1, rfl, q1, q2, q3⟩ := repEnc hr'
    refine ⟨_, rfl, f0, _, rfl, hr', _, rfl, iteF ?_⟩
    refine ⟨_, rfl, a1, _, rfl, q1, rfl, _, _, rfl, _, _, rfl, _, _, rfl, rfl, ?_⟩
    have n1 := ok.ns f0 hmem
    obtain ⟨m1, m2, m3⟩ := ok.nm f0 hmem
    obtain ⟨p_1, p_2, p_3⟩ := ok.ps f0 hmem
    obtain ⟨w1, w2⟩ := ok.wf f0 hmem
    have hno : ∀ p ∈ nmK (Pg.take i), p.1 ≠ Sum.inr f0.name := fun p hp e => by
      obtain ⟨g', hg', rfl⟩ := List.mem_map.mp hp
      have : g'.name = f0.name := Sum.inr.inj e
      exact notin_take (·.name) ok.nd hf0 (List.mem_map.mpr ⟨g', hg', this⟩)
    refine ⟨_, rfl, _, rfl, _, rfl, a, _, rfl, .inr (SqT.keep h1 fun b o h _ => S03 _ _ h), f0.name, dn, _, _, rfl, n1, hN3, valV_no hno, m1, m2, m3, _, rfl, iteF ?_⟩
    refine ⟨_, rfl, p1, f0.ps, rfl, q2, p_1, p_2, p_3, fun H4 S4 => ⟨_, rfl, iteF ?_⟩⟩
    refine ⟨_, rfl, _, rfl, _, rfl, f0.body, b1, p1, dc, f0.ps, _, rfl, Rep.keep (fun b o h _ => S4 _ _ h) q3, SqT.keep q2 (fun b o h _ => S4 _ _ h), S4 _ _ hC3, w1, w2, fun H5 S5 => ⟨_, rfl, iteF ?_⟩⟩
    have hN5 := S5 _ _ (S4 _ _ hN3)
    refine ⟨_, rfl, _, rfl, dn, _, rfl, DPut.k (k := Sum.inr f0.name) hN5 (by unfold nmK; rw [List.length_map, List.length_take]; exact small7 (by omega)), ?_⟩
    refine ⟨_, _, _, _, _, rfl, fun b o h => ?_, (upd_ne ndc).trans (S5 _ _ (S4 _ _ hC3)), ?_⟩
    · rw [upd_ne (fun e => by rw [e, dn0] at h; cases h)]
      exact S5 _ _ (S4 _ _ (S03 _ _ h))
    · rw [upd_same, putK_no hno, List.take_add_one, hf0]
      simp [nmK]
  · rintro σ H' ⟨o3, o4, o5, o6, o7, rfl, S, _, _⟩
    exact k H' S
/-! ### inputs_of -/
abbrev sInputsOf : Stmt := top 15
def spInputsOf (K : PySem.W.Frag) : Sp := fun vs H Q _ => ∃ (Pg : List Fn) (f0 : Fn) (rest : List Fn) (v : V), vs = [v] ∧ Rep K H (encP Pg) v ∧ OkP Pg ∧ Pg = f0 :: rest ∧ ∀ H', Same H H' → Q (vI f0.ps.length) H'
theorem scInputsOf : FnScope ["program"] ["program"] (defScope sInputsOf) := ⟨rfl, rfl, rfl, by decide +kernel, rfl, by decide +kernel, by decide +kernel⟩
theorem ok_inputs_of (B : Blt mg) (c_check_program : C8.Cal P w K mg base 4 "check_program" (spCheckProgram K) []) (g : GDef K mg "inputs_of" sInputsOf []) : C8.Cal P w K mg base 5 "inputs_of" (spInputsOf K) [] := by
  refine cal_of g scInputsOf (fun _ _ _ _ _ _ us hl => match us, hl with | [_], _ => rfl) (fun vs H Q E h => ?_) (fun f cdv A outer s H vs Q E hr h => ?_)
  · obtain ⟨Pg, f0, rest, v, rfl, _⟩ := h; rfl
  obtain ⟨Pg, f0, rest, v, rfl, hv, ok, hP, k⟩ := h
  refine ⟨_, (pss_cons (ps_expr (C8.pe_c c_check_program hr (by decide) (by rfl) (pa_cons (pv 0) pa_nil)))
    (pss_one (ps_ret (pe_callB call_len_seq (by rfl) B.len boot_len (pa_cons (pe_ix ix_tup (pe_ix ix_tup (pv 0) pe_int (fun _ _ => rfl)) pe_int (fun _ _ => rfl)) pa_nil))))), ?_⟩
  refine ⟨_, rfl, Pg, v, rfl, hv, ok, fun H1 S1 => ?_⟩
  have hv1 : Rep K H1 (encP Pg) v := Rep.keep (fun b o h _ => S1 _ _ h) hv
  obtain ⟨a, vs, rfl, h1, h2⟩ := hv1
  rw [hP] at h2
  obtain ⟨v0, r0, rfl, e0, _⟩ := h2
  obtain ⟨a1, p1, b1, rfl, q1, q2, q3⟩ := repEnc e0
  refine ⟨_, rfl, a, _, 0, _, rfl, rfl, h1, atI_of (i := 0) rfl, a1, _, 1, _, rfl, rfl, q1, rfl, p1, _, rfl, .inr q2, ?_⟩
  rw [List.length_map]
  exact k H1 S1
/-! ### universal -/
abbrev sUniversal : Stmt := top 18
structure UnivG (K : PySem.W.Frag) (mg : Str → Option Value) (aU : Addr) : Prop where
  mg : ∃ u, mg "UNIVERSAL" = some u ∧ RelV (.ref aU) u
  at_ : ∀ H : Hp, Rep K H (encP U) (.ref aU)
def spUniversal (K : PySem.W.Frag) : Sp := fun vs H Q _ => vs = [] ∧ ∀ v, Rep K H (encP U) v → Q v H
theorem scUniversal : FnScope [] [] (defScope sUniversal) := ⟨rfl, rfl, rfl, by decide +kernel, rfl, by decide +kernel, by decide +kernel⟩
theorem ok_universal (G : UnivG K mg aU) (g : GDef K mg "universal" sUniversal []) : C8.Cal P w K mg base 1 "universal" (spUniversal K) [] := by
  refine cal_of g scUniversal (fun _ _ _ _ _ _ us hl => match us, hl with | [], _ => rfl) (fun vs H Q E h => ?_) (fun f cdv A outer s H vs Q E hr h => ?_)
  · obtain ⟨rfl, _⟩ := h; rfl
  obtain ⟨rfl, k⟩ := h
  have hU := G.mg
  refine ⟨_, pss_one (ps_ret (C8.pe_gc (v := .ref aU) rfl hU)), ?_⟩
  exact k _ (G.at_ _)
/-! ### the universal program passes -/
theorem okU : OkP U := by
  refine ⟨by decide +kernel, by decide +kernel, by decide +kernel, ?_, ?_, ?_, ?_⟩
  · have : (U.all fun f => decide (f.name ∉ specials.map (·.1))) = true := by decide +kernel
    exact fun f hf => of_decide_eq_true (List.all_eq_true.mp this f hf)
  · have : (U.all fun f => decide (nameOk f.name = true ∧ f.name.length ≤ 1000 ∧ (Txt.slice f.name (some 1) none).length ≤ 1000)) = true := by decide +kernel
    exact fun f hf => of_decide_eq_true (List.all_eq_true.mp this f hf)
  · have : (U.all fun f => decide (f.ps.length ≤ 12 ∧ f.ps.Nodup ∧ ∀ x ∈ f.ps, x ∉ specials.map (·.1))) = true := by decide +kernel
    exact fun f hf => of_decide_eq_true (List.all_eq_true.mp this f hf)
  · have : (U.all fun f => decide (wfB f.ps (cntK U) f.body = true ∧ psz f.body ≤ 1000000)) = true := by decide +kernel
    exact fun f hf => of_decide_eq_true (List.all_eq_true.mp this f hf)
end
end Og
/-! started, run_program. -/
namespace Og
open PySem PySem.Spec L2
/-- a class whose calls give ks by name behind n others -/
structure MakK (P : Program) (w : World) (K : PySem.W.Frag) (mg : Str → Option Value) (base : Heap) (k : Nat) (x : Str) (C : Addr) (sp : Sp) (n : Nat) (ks : List Str) : Prop where
  ex : ∃ (f : Addr) (fd : FuncData) (ps : List Str), Mk K C f ∧ FnOk P w K mg base CX0 k f fd ps sp ∧ mg x = some (.ref C) ∧ KBn K fd ps (n + 1) ks (fun us ws => us ++ ws) (fun vs zs => vs ++ zs)
section
variable {P : Program} {w : World} {K : PySem.W.Frag} {mg : Str → Option Value} {base : Heap} {CS CM CR : Addr}
theorem mak_machine (g : CDef K mg "Machine" CM "Machine.__init__" sMInit [("keeping", .bl false)]) (hb : BodyMInit P w K mg base CS CM) : MakK P w K mg base 3 "Machine" CM (spMInit w K CS CM) 2 ["keeping"] := by
  obtain ⟨hm, f, fd, F, M⟩ := g
  have F2 : FnOk P w K mg base CX0 3 f fd ["self", "program", "inputs", "keeping"] (spMInit w K CS CM) := fnok_of F scMInit (fun vs H Q E h => by
    obtain ⟨m, dx, ai, vP, ivs, Pg, f0, rest, xs, rfl, _⟩ := h; rfl) hb
  obtain ⟨mv, hk⟩ := F.kbinds0 (ps := ["self", "program", "inputs", "keeping"]) 3 ["keeping"] [] (fun us _ ws => us ++ ws) (by simp) (by simp) (fun r1 _ r3 => r1.append r3) (fun D doc pm an cdv ct us mv ws l1 l2 l3 => by
    match us, l1, ws, l3 with
    | [_, _, _], _, [_], _ => 
      cases mv with
      | nil => exact (rfl : _ = _)
      | cons _ _ => cases l2)
  exact ⟨f, fd, _, M, F2, hm, hk⟩
theorem pe_mkK {X : Cx} {x : Str} {p pos : Pos} {C : Addr} {sp : Sp} {k n j : Nat} {ks : List Str} {e : Expr} {es : List Expr} {kws : List Keyword} {t tk : TA} (c : MakK X.prog X.w X.K X.mg X.base k x C sp n ks) (hr : Room j X.A) (hk : k + 1 ≤ j) (hg : Gl X x) (ha : PA X (e :: es) t) (hkw : PK X kws tk)
    (hall : (backToKw pos (keywordEach kws X.env)).all (·.1.isSome) = true := by rfl) (hks : (backToKw pos (keywordEach kws X.env)).filterMap (·.1) = ks := by rfl) (hdb : (x == ("__debug__" : Str)) = false := by decide)
    (he : starEach (e :: es) X.env = (false, eval e X.env) :: starEach es X.env := by rfl) (hpl : ((backTo pos (starEach (e :: es) X.env)).any (·.1) || (backToKw pos (keywordEach kws X.env)).any (·.1.isNone)) = false := by rfl) :
    PE X (.Call (.Name x p) (e :: es) kws pos) (tMakeK C n ks.length sp (fun vs zs => vs ++ zs) C8.E0 t tk) := by
  obtain ⟨f, fd, ps, M, F, hm, hb⟩ := c.ex
  exact pe_makeK M F (hr.mono hk) hg hm hb C8.pass0 ha hkw hall hks hdb he hpl
/-! ### Run -/
structure RCl (K : PySem.W.Frag) (C : Addr) : Prop where
  cl : Cls K C
  nKind : NoAttr K C "kind"
  nValue : NoAttr K C "value"
  nSteps : NoAttr K C "steps"
abbrev sRInit : Stmt := inClass (top 26) 0
def rf (k v s : V) : List (Str × V) := [("kind", k), ("value", v), ("steps", s)]
def spRInit (C : Addr) : Sp := fun vs H Q _ => ∃ (r dx : Addr) (a b c : V), vs = [.ref r, a, b, c] ∧ H r = some (.ins C dx []) ∧ ∀ H', H' r = some (.ins C dx (rf a b c)) → (∀ d o, H d = some o → d ≠ r → H' d = some o) → Q .non H'
theorem scRInit : FnScope ["self", "kind", "value", "steps"] ["self", "kind", "value", "steps"] (defScope sRInit) := ⟨rfl, rfl, rfl, by decide +kernel, rfl, by decide +kernel, by decide +kernel⟩
theorem ok_r_init (T : RCl K CR) (g : CDef K mg "Run" CR "Run.__init__" sRInit []) : C8.Mak P w K mg base 1 "Run" CR (spRInit CR) [] := by
  refine mak_of g scRInit (fun _ _ _ _ _ _ us hl => match us, hl with | [_, _, _, _], _ => rfl) (fun vs H Q E h => ?_) (fun f cdv A outer s H vs Q E hr h => ?_)
  · obtain ⟨r, dx, a, b, c, rfl, _⟩ := h; rfl
  obtain ⟨r, dx, a, b, c, rfl, hr0, k⟩ := h
  refine ⟨_, pss_cons (ps_fld (pv 0) (pv 1) rfl) (pss_cons (ps_fld (pv 0) (pv 2) rfl) (pss_one (ps_fld (pv 0) (pv 3) rfl))), ?_⟩
  refine ⟨_, rfl, _, rfl, r, CR, dx, _, rfl, hr0, T.cl, T.nKind, (by show 0 < 1000; decide), ?_⟩
  refine ⟨_, rfl, _, rfl, r, CR, dx, _, rfl, upd_same, T.cl, T.nValue, (by show 1 < 1000; decide), ?_⟩
  refine ⟨_, rfl, _, rfl, r, CR, dx, _, rfl, upd_same, T.cl, T.nSteps, (by show 2 < 1000; decide), ?_⟩
  exact k _ upd_same (fun d o h n => by rw [upd_ne n, upd_ne n, upd_ne n]; exact h)
/-! ### started -/
abbrev sStarted : Stmt := top 28
/-- what a run needs -/
structure Starts (K : PySem.W.Frag) (H : Hp) (Pg : List Fn) (f0 : Fn) (xs : List PV) (vP : V) (ai : Addr) (ivs : List V) : Prop where
  rep : Rep K H (encP Pg) vP
  ok : OkP Pg
  hd : ∃ rest, Pg = f0 :: rest
  lst : H ai = some (.lst ivs)
  reps : Reps K H xs ivs
  len : f0.ps.length = xs.length
  l5 : xs.length ≤ 5
  sz : 10 + 2 * (psz (encP Pg) + pszs xs) ≤ 1000000
def spStarted (w : World) (K : PySem.W.Frag) (CS CM : Addr) : Sp := fun vs H Q _ => ∃ (vP : V) (ai : Addr) (ivs : List V) (Pg : List Fn) (f0 : Fn) (xs : List PV), vs = [vP, .ref ai, .bl false] ∧ Starts K H Pg f0 xs vP ai ivs ∧
  ∀ H' M y fns st pn b args, MachAt w CS CM H' M y fns ⟨st, [], [.ev b (pn.zip args)], 0⟩ → Den st y yes → FnsOk st fns Pg → Dens st pn (f0.ps.map .w) → Den st b f0.body → Dens st args xs → st.length ≤ 10 + 2 * (psz (encP Pg) + pszs xs) → Same H H' → (∀ c ∈ M.own, H c = none) → Q (.ref M.m) H'
theorem scStarted : FnScope ["program", "inputs", "keeping"] ["program", "inputs", "keeping"] (defScope sStarted) := ⟨rfl, rfl, rfl, by decide +kernel, rfl, by decide +kernel, by decide +kernel⟩
theorem ok_started (B : Blt mg) (c_check_program : C8.Cal P w K mg base 4 "check_program" (spCheckProgram K) []) (c_inputs_of : C8.Cal P w K mg base 5 "inputs_of" (spInputsOf K) []) (c_Machine : MakK P w K mg base 3 "Machine" CM (spMInit w K CS CM) 2 ["keeping"])
    (g : GDef K mg "started" sStarted []) : C8.Cal P w K mg base 6 "started" (spStarted w K CS CM) [] := by
  refine cal_of g scStarted (fun _ _ _ _ _ _ us hl => match us, hl with | [_, _, _], _ => rfl) (fun vs H Q E h => ?_) (fun f cdv A outer s H vs Q E hr h => ?_)
  · obtain ⟨vP, ai, ivs, Pg, f0, xs, rfl, _⟩ := h; rfl
  obtain ⟨vP, ai, ivs, Pg, f0, xs, rfl, S, k⟩ := h
  refine ⟨_, (pss_cons (ps_expr (C8.pe_c c_check_program hr (by decide) (by rfl) (pa_cons (pv 0) pa_nil)))
    (pss_cons (ps_if (pt_cmpR op_ne (pe_callB call_len_seq (by rfl) B.len boot_len (pa_cons (pv 1) pa_nil)) (C8.pe_c c_inputs_of hr (by decide) (by rfl) (pa_cons (pv 0) pa_nil)) (nomark _)) pss_never pss_nil)
    (pss_one (ps_ret (pe_mkK c_Machine hr (by decide) (by rfl) (pa_cons (pv 0) (pa_cons (pv 1) pa_nil)) (pk_cons (pv 2) pk_nil)))))), ?_⟩
  obtain ⟨rest, hPg⟩ := S.hd
  refine ⟨_, rfl, Pg, vP, rfl, S.rep, S.ok, fun H1 S1 => ?_⟩
  refine ⟨_, rfl, ai, _, rfl, .inl (SqL.of (S1 _ _ S.lst)), _, rfl, Pg, f0, rest, vP, rfl, Rep.keep (fun b o h _ => S1 _ _ h) S.rep, S.ok, hPg, fun H2 S2 => ⟨rfl, _, rfl, ?_⟩⟩
  have hl : ivs.length = f0.ps.length := by rw [S.reps.length, S.len]
  refine iteN (by rw [hl, decide_eq_true rfl] <;> rfl) ?_
  have S12 := S1.trans S2
  refine ⟨_, rfl, _, rfl, _, rfl, rfl, rfl, fun x dx hx hdx hne => ?_⟩
  have S3 : Same H (upd (upd H2 dx (.own x)) x (.ins CM dx [])) := fun b o h => by
    have h2 := S12 _ _ h
    rw [upd_ne (ne_of_none h2 hx), upd_ne (ne_of_none h2 hdx)]
    exact h2
  have nx : ai ≠ x := ne_of_none (S12 _ _ S.lst) hx
  have hm := S.ok.ps
  have hnd0 : f0.ps.Nodup := (hm f0 (by rw [hPg]; simp)).2.1
  refine ⟨x, dx, ai, vP, ivs, Pg, f0, rest, xs, rfl, upd_same, Rep.keep (fun b o h _ => S3 _ _ h) S.rep, SqL.of (S3 _ _ S.lst), nx, Reps.keep (fun b o h _ => S3 _ _ h) S.reps, hPg, S.ok.nd, hnd0, S.len, S.l5, S.sz, fun H' M y fns st pn b args e MA h1 h2 h3 h4 h5 h6 h7 h8 => ⟨rfl, ?_⟩⟩
  subst e
  refine k H' M y fns st pn b args MA h1 h2 h3 h4 h5 h6 (fun c o h => h7 c o (S3 _ _ h) (ne_of_none (S12 _ _ h) hx)) (fun c hc => ?_)
  by_cases hcm : c = M.m
  · rw [hcm]; exact Same.free S12 hx
  · exact Same.free S3 (h8 c hc hcm)
/-! ### run_program -/
abbrev sRunProgram : Stmt := top 29
def spRunProgram (K : PySem.W.Frag) (CR : Addr) : Sp := fun vs H Q _ => ∃ (vP : V) (ai : Addr) (ivs : List V) (Pg : List Fn) (f0 : Fn) (xs : List PV) (limit n : Nat) (v : PV), vs = [vP, .ref ai, vI limit] ∧ Starts K H Pg f0 xs vP ai ivs ∧
  (∀ k f, findF Pg k = some f → f.ps.Nodup ∧ f.ps.length ≤ 5) ∧ Og.Run Pg (.e f0.ps xs f0.body) [v] n ∧ n ≤ limit ∧ limit ≤ 200000 ∧ psz v ≤ 200000 ∧ pdp v ≤ 200 ∧
  ∀ H' r dx u, Same H H' → H' r = some (.ins CR dx (rf (.str "done") u (vI n))) → Rep K H' v u → Q (.ref r) H'
theorem scRunProgram : FnScope ["program", "inputs", "limit", "machine"] ["program", "inputs", "limit"] (defScope sRunProgram) := ⟨rfl, rfl, rfl, by decide +kernel, rfl, by decide +kernel, by decide +kernel⟩
theorem ok_run_program (T : MCl K CM) (c_started : C8.Cal P w K mg base 6 "started" (spStarted w K CS CM) []) (c_go_on : C8.Met P w K mg base 4 CM "go_on" (spGoOn w CS CM) []) (c_is_done : C8.Met P w K mg base 1 CM "is_done" (spIsDone w CS CM) [])
    (c_is_great : C8.Met P w K mg base 1 CM "is_great" (spIsGreat w CS CM) []) (c_result : C8.Met P w K mg base 3 CM "result" (spResult w K CS CM) []) (c_Run : C8.Mak P w K mg base 1 "Run" CR (spRInit CR) [])
    (g : GDef K mg "run_program" sRunProgram []) : C8.Cal P w K mg base 7 "run_program" (spRunProgram K CR) [] := by
  refine cal_of g scRunProgram (fun _ _ _ _ _ _ us hl => match us, hl with | [_, _, _], _ => rfl) (fun vs H Q E h => ?_) (fun f cdv A outer s H vs Q E hr h => ?_)
  · obtain ⟨vP, ai, ivs, Pg, f0, xs, limit, n, v, rfl, _⟩ := h; rfl
  obtain ⟨vP, ai, ivs, Pg, f0, xs, limit, n, v, rfl, S, hnd, hrun, hnl, hlim, hs1, hs2, k⟩ := h
  have nd := scRunProgram.nd
  refine ⟨_, (pss_cons (ps_set (i := 3) nd rfl (.inl rfl) (C8.pe_c c_started hr (by decide) (by rfl) (pa_cons (pv 0) (pa_cons (pv 1) (pa_cons pe_bl pa_nil)))))
    (pss_cons (ps_expr (C8.pe_mt c_go_on hr (by decide) (pv 3) (pa_cons (pv 2) pa_nil)))
    (pss_cons (ps_if (PW.pt (pw_and (pt_val (C8.pe_mt0 c_is_done hr (by decide) (pv 3))) (pw_and1 (pt_val (C8.pe_mt0 c_is_great hr (by decide) (pv 3)))))) pss_never pss_nil)
    (pss_cons (ps_if (pt_val (C8.pe_mt0 c_is_done hr (by decide) (pv 3))) (pss_one (ps_ret (C8.pe_mk c_Run hr (by decide) (by rfl) (pa_cons pe_str (pa_cons (C8.pe_mt0 c_result hr (by decide) (pv 3)) (pa_cons (pe_fld (pv 3) rfl) pa_nil)))))) pss_nil)
    pss_never)))), ?_⟩
  refine ⟨_, rfl, _, rfl, vP, ai, ivs, Pg, f0, xs, rfl, S, fun H1 M y fns st pn b args MA hy hF hpn hb hargs hlen S1 hfree => ?_⟩
  have hrt := run_turns (fns := fns) (y := y) (limit := limit) hnd hrun v rfl st b (pn.zip args) [] [] 0 MA.st.wf hb ⟨pn, args, rfl, hpn, hargs⟩ hF hy (by omega)
  obtain ⟨st', m, o, hC, ho, hpre, hW, hm, hl'⟩ := hrt
  rw [List.nil_append, Nat.zero_add] at hC
  have hsz := S.sz
  obtain ⟨dx1, hi1⟩ := MA.ins
  refine ⟨_, rfl, M.m, dx1, _, rfl, hi1, rfl, _, rfl, M, y, limit, fns, _, _, o, rfl, MA, hC, rfl, ⟨(by show st.length + o ≤ _; omega), (by show 0 + o ≤ _; omega), (by show 1 + 6 * o + 20 ≤ _; omega)⟩, fun H2 MA2 F2 => ?_⟩
  obtain ⟨dx2, hi2⟩ := MA2.ins
  refine ⟨_, rfl, M.m, dx2, _, rfl, hi2, rfl, M, y, fns, _, rfl, MA2, rfl, _, rfl, iteT ?_⟩
  refine ⟨_, rfl, M.m, dx2, _, rfl, hi2, rfl, M, y, fns, _, m, [], v, rfl, MA2, rfl, hm, hs1, hs2, _, rfl, iteF ?_⟩
  refine ⟨_, rfl, M.m, dx2, _, rfl, hi2, rfl, M, y, fns, _, rfl, MA2, rfl, _, rfl, iteT ?_⟩
  refine ⟨_, rfl, M.m, dx2, _, rfl, hi2, rfl, M, y, fns, _, m, [], v, rfl, MA2, rfl, hm, (by omega), (by show st'.length ≤ _; omega), fun H3 u S3 hu => ?_⟩
  have MA3 := MA2.same S3
  obtain ⟨dx3, hi3⟩ := MA3.ins
  refine ⟨_, rfl, _, _, _, _, _, rfl, hi3, T.cl, T.nSteps, rfl, fun x dx hx hdx hne => ?_⟩
  refine ⟨x, dx, _, _, _, rfl, upd_same, fun H4 hr4 hold => ⟨rfl, ?_⟩⟩
  have S4 : Same H3 H4 := fun c o h => hold c o (by rw [upd_ne (ne_of_none h hx), upd_ne (ne_of_none h hdx)]; exact h) (ne_of_none h hx)
  refine k H4 x dx u (fun c o h => ?_) hr4 (Rep.keep (fun b o h _ => S4 _ _ h) hu)
  exact S4 _ _ (S3 _ _ (F2.old _ _ (S1 _ _ h) (fun z => by have := hfree c z; rw [h] at this; cases this)))
end
end Og
/-! _law_draws, _law_take. -/
namespace Og
open PySem PySem.Spec L2
section
variable {P : Program} {w : World} {K : PySem.W.Frag} {mg : Str → Option Value} {base : Heap}
abbrev sDraws : Stmt := top 31
abbrev nDraws : List Str := ["_law_script", "_law_many", "_law_cell", "_law_rests", "_law_draws_here", "_law_k", "_law_at", "_law_mixed"]
def spDraws (K : PySem.W.Frag) : Sp := fun vs H Q _ => ∃ (a : Addr) (ns : List Int) (many : Nat), vs = [.ref a, vI many] ∧ SqL K H a (ns.map V.int) ∧ ns.length ≤ 1000 ∧ many ≤ 1000 ∧
  ∀ (H' : Hp) (p : Addr) (ds : List Int), Same H H' → H p = none → H' p = some (.lst (ds.map V.int)) → Q (.ref p) H'
theorem scDraws : FnScope nDraws ["_law_script", "_law_many"] (defScope sDraws) := ⟨rfl, rfl, rfl, by decide +kernel, rfl, by decide +kernel, by decide +kernel⟩
theorem sqlK {H H' : Hp} {a : Addr} {xs : List V} (h : SqL K H a xs) (f : Same H H') : SqL K H' a xs := by
  rcases h with (h | ⟨o, h⟩) | h
  · exact .inl (.inl (f _ _ h))
  · exact .inl (.inr ⟨o, f _ _ h⟩)
  · exact .inr h
theorem cmA (x y : Int) : CMul (x % 2147483647) y := .inl ⟨by have := Int.emod_nonneg x (b := 2147483647) (by decide); omega, by have := Int.emod_lt_of_pos x (b := 2147483647) (by decide); omega⟩
theorem cmB (x y : Int) : CMul (x % 2147483629) y := .inl ⟨by have := Int.emod_nonneg x (b := 2147483629) (by decide); omega, by have := Int.emod_lt_of_pos x (b := 2147483629) (by decide); omega⟩
theorem atI_int {ns : List Int} {j : Nat} (h : j < ns.length) : atI (ns.map V.int) (j : Int) = some (.int ns[j]) := atI_of (by rw [List.getElem?_map, List.getElem?_eq_getElem h] <;> rfl)
theorem ltA : (0 : Int) < 2147483647 := by decide
theorem ltB : (0 : Int) < 2147483629 := by decide
theorem ltC : (0 : Int) < 1000003 := by decide
theorem ixN_at {n j : Nat} (h : j < n) : ixN n (j : Int) = some j := by
  unfold ixN
  rw [if_pos (by omega), if_pos (by omega)] <;> simp
theorem ok_draws (B : Blt mg) (g : GDef K mg "_law_draws" sDraws []) : C8.Cal P w K mg base 1 "_law_draws" (spDraws K) [] := by
  refine cal_of g scDraws (fun _ _ _ _ _ _ us hl => match us, hl with | [_, _], _ => rfl) (fun vs H Q E h => ?_) (fun f cdv A outer s H vs Q E hr h => ?_)
  · obtain ⟨a, ns, many, rfl, _⟩ := h; rfl
  obtain ⟨a, ns, many, rfl, hS, hl, hm, k⟩ := h
  have nd := scDraws.nd
  refine ⟨_, (pss_cons (ps_setLc (i := 3) (own := [("_law_cell", 2)]) (g := gName 2) (tt := tYes) rfl nd rfl rfl (sw_true rfl rfl rfl (by decide +kernel)) (pi_list (pv 0)) (blkOk_by (N := nDraws) (sc := defScope sDraws) (by decide +kernel)) (fun _ _ _ _ _ => pg_name (i := 2) nd rfl (Or.inl rfl)) (fun _ _ _ _ _ => pts_nil) (fun _ _ _ _ _ => pe_callB call_abs (by rfl) B.abs (by decide +kernel) (pa_cons (pe_callTy call_int1 (by rfl) B.int (by decide +kernel) (pa_cons (pv 2) pa_nil)) pa_nil)))
    (pss_cons (ps_set (i := 4) nd rfl (.inl rfl) (pe_lst pa_nil))
    (pss_cons (ps_for PassesOwn.never rfl (pi_range1 rfl B.range (pa_cons (pv 1) pa_nil)) (pg_name (i := 5) nd rfl (.inl rfl)) (pss_cons (ps_set (i := 2) nd rfl (.inl rfl) (pv 5))
    (pss_cons (ps_if (pt_cmpR op_gt (pe_callB call_len_seq (by rfl) B.len boot_len (pa_cons (pv 0) pa_nil)) pe_int (nomark _)) (pss_cons (ps_set (i := 6) nd rfl (.inl rfl) (pe_op op_mod (pv 5) (pe_callB call_len_seq (by rfl) B.len boot_len (pa_cons (pv 0) pa_nil))))
    (pss_cons (ps_set (i := 2) nd rfl (.inl rfl) (pe_callTy call_int1 (by rfl) B.int (by decide +kernel) (pa_cons (pe_ix ix_list (pv 0) (pv 6) (fun _ _ => rfl)) pa_nil)))
    (pss_one (ps_if (PW.pt (pw_and (pt_cmpR op_ge (pv 2) (pe_op op_pow pe_int pe_int) (nomark _)) (pw_and1 (pt_cmpR op_gt (pe_ix ix_list (pv 3) (pv 6) (fun _ _ => rfl)) pe_int (nomark _))))) (pss_cons (ps_expr (pe_bm PySem.F.plainAttrs_list PySem.F.slot_list_append PySem.F.type_list_append mt_append (pv 4) (pa_cons (pe_op op_mod (pe_callTy call_int1 (by rfl) B.int (by decide +kernel) (pa_cons (pe_ix ix_list (pv 3) (pv 6) (fun _ _ => rfl)) pa_nil)) pe_int) pa_nil)))
    (pss_cons (ps_asg (pe_op op_fdiv (pe_callTy call_int1 (by rfl) B.int (by decide +kernel) (pa_cons (pe_ix ix_list (pv 3) (pv 6) (fun _ _ => rfl)) pa_nil)) pe_int) (pg_sub (pv 3) (pv 6) set_list))
    (pss_one ps_continue))) pss_nil)))) pss_nil)
    (pss_cons (ps_set (i := 7) nd rfl (.inl rfl) (pe_op op_mod (pe_callTy call_int1 (by rfl) B.int (by decide +kernel) (pa_cons (pe_op op_add (pe_op op_add (pe_op op_mul (pv 2) pe_int) (pe_op op_mul (pv 5) pe_int)) pe_int) pa_nil)) pe_int))
    (pss_cons (ps_set (i := 7) nd rfl (.inl rfl) (pe_op op_mod (pe_callTy call_int1 (by rfl) B.int (by decide +kernel) (pa_cons (pe_op op_add (pe_op op_fdiv (pe_op op_mul (pv 7) (pv 7)) pe_int) (pv 7)) pa_nil)) pe_int))
    (pss_one (ps_expr (pe_bm PySem.F.plainAttrs_list PySem.F.slot_list_append PySem.F.type_list_append mt_append (pv 4) (pa_cons (pe_op op_mod (pe_callTy call_int1 (by rfl) B.int (by decide +kernel) (pa_cons (pe_op op_add (pe_op op_fdiv (pe_op op_mul (pv 7) (pv 7)) pe_int) (pe_op op_mul (pv 5) pe_int)) pa_nil)) pe_int) pa_nil)))))))))
    (pss_one (ps_ret (pv 4)))))), ?_⟩
  refine ⟨_, rfl, a, rfl, ⟨_, hS⟩, fun D hD => ?_⟩
  have S0 : Same H (upd H D (.lst [])) := Same.new hD
  refine lc_list (K := K) (a := a) (xs := ns.map V.int) (fun i H' => Same H H' ∧ ∃ rs : List Int, H' D = some (.lst (rs.map V.int)) ∧ rs.length = i) ⟨S0, [], upd_same, rfl⟩ (fun i H' _ h => sqlK hS h.1) ?_ ?_
  · rintro i z H' hz ⟨h1, rs, h2, h3⟩
    rw [List.getElem?_map] at hz
    obtain ⟨n, hn, rfl⟩ := Option.map_eq_some_iff.mp hz
    have hil : i < ns.length := (List.getElem?_eq_some_iff.mp hn).1
    refine ⟨rfl, ?_⟩
    dsimp only [tYes]
    rw [if_pos rfl]
    refine ⟨_, rfl, .inl ⟨n, rfl, _, rfl, _, h2, (by rw [List.length_map]; exact small7 (by omega)), fun b o hb => ?_, rs ++ [if n < 0 then -n else n], by rw [upd_same, List.map_append] <;> rfl, by simp [h3]⟩⟩
    rw [upd_ne (ne_of_none hb hD)]
    exact h1 _ _ hb
  · rintro H1 ⟨h1, rs, h2, h3⟩
    rw [List.length_map] at h3
    refine ⟨Nat.zero_le _, fun p hp => ?_⟩
    have S1 : Same H (upd H1 p (.lst [])) := h1.trans (Same.new hp)
    have p0 : H p = none := Same.free h1 hp
    have nDp : D ≠ p := ne_of_none h2 hp
    refine ⟨_, rfl, (many : Int), rfl, by omega, by omega, ?_⟩
    rw [Int.toNat_natCast]
    refine for_range (fun i σ H' => ∃ (o2 o5 o6 o7 : Option V) (rs ds : List Int), σ = [some (.ref a), some (vI many), o2, some (.ref D), some (.ref p), o5, o6, o7] ∧ Same H H' ∧ H' D = some (.lst (rs.map V.int)) ∧ rs.length = ns.length ∧ H' p = some (.lst (ds.map V.int)) ∧ ds.length = i)
      ⟨none, none, none, none, rs, [], rfl, S1, (upd_ne nDp).trans h2, h3, upd_same, rfl⟩ ?_ ?_
    · rintro i σ H' hi ⟨o2, o5, o6, o7, rs, ds, rfl, S, hR, hrl, hds, hdl⟩
      have ap : ∀ (z : Int), Same H (upd H' p (.lst (ds.map V.int ++ [.int z]))) ∧ upd H' p (.lst (ds.map V.int ++ [.int z])) D = some (.lst (rs.map V.int)) ∧ upd H' p (.lst (ds.map V.int ++ [.int z])) p = some (.lst ((ds ++ [z]).map V.int)) ∧ (ds ++ [z]).length = i + 1 := fun z =>
        ⟨fun b o hb => by rw [upd_ne (ne_of_none hb p0)]; exact S _ _ hb, (upd_ne nDp).trans hR, by rw [upd_same, List.map_append] <;> rfl, by simp [hdl]⟩
      have hdz : (ds.map V.int).length < sizeLine := by rw [List.length_map]; exact small7 (by omega)
      refine ⟨_, rfl, ?_⟩
      refine ⟨_, rfl, a, _, rfl, .inl (sqlK hS S), _, _, rfl, rfl, _, rfl, ?_⟩
      by_cases hz : ns.length = 0
      · refine iteN (decide_eq_false (by rw [List.length_map]; omega)) ?_
        refine ⟨_, rfl, _, _, rfl, rfl, .inr ⟨by decide, by decide⟩, _, rfl, _, _, rfl, rfl, .inr ⟨by decide, by decide⟩, _, _, rfl, rfl, _, _, rfl, rfl, .inl ⟨_, rfl, _, _, rfl, rfl, ltA, ?_⟩⟩
        refine ⟨_, rfl, _, rfl, _, _, rfl, rfl, cmA _ _, _, _, rfl, rfl, ⟨by decide, by decide⟩, _, rfl, _, _, rfl, rfl, .inl ⟨_, rfl, _, _, rfl, rfl, ltB, ?_⟩⟩
        refine ⟨_, rfl, .inl ⟨rfl, _, SqL.of hds⟩, _, rfl, _, rfl, _, _, rfl, rfl, cmB _ _, _, _, rfl, rfl, ⟨by decide, by decide⟩, _, rfl, _, _, rfl, rfl, .inr ⟨by decide, by decide⟩, _, _, rfl, rfl, .inl ⟨_, rfl, _, _, rfl, rfl, ltB, p, _, _, rfl, rfl, hds, hdz, ?_⟩⟩
        exact ⟨_, _, _, _, rs, ds ++ [_], rfl, (ap _).1, (ap _).2.1, hrl, (ap _).2.2.1, (ap _).2.2.2⟩
      · refine iteP (decide_eq_true (by rw [List.length_map]; omega)) ?_
        have hlp : (0 : Int) < ((ns.map V.int).length : Nat) := by rw [List.length_map]; omega
        refine ⟨_, rfl, _, rfl, a, _, rfl, .inl (sqlK hS S), _, _, rfl, rfl, hlp, ?_⟩
        obtain ⟨j, hj, hjl⟩ : ∃ j : Nat, (0 + (i : Int)) % ((ns.map V.int).length : Nat) = (j : Int) ∧ j < ns.length := by
          have e1 := Int.emod_nonneg (0 + (i : Int)) (Int.ne_of_gt hlp)
          have e2 := Int.emod_lt_of_pos (0 + (i : Int)) hlp
          rw [List.length_map] at e2
          exact ⟨_, (Int.toNat_of_nonneg e1).symm, by rw [List.length_map]; rw [List.length_map] at e1; omega⟩
        dsimp only
        rw [hj]
        refine ⟨_, rfl, _, rfl, a, _, _, _, rfl, rfl, sqlK hS S, atI_int hjl, .inl ⟨_, rfl, ?_⟩⟩
        have hjr : j < rs.length := by rw [hrl]; exact hjl
        refine ⟨_, rfl, _, _, rfl, rfl, ⟨by decide, by decide, by decide⟩, _, _, rfl, rfl, _, rfl, ?_⟩
        refine ite2 (fun hb => ?_) (fun hb => ?_)
        · refine ⟨_, rfl, _, rfl, D, _, _, _, rfl, rfl, SqL.of hR, atI_int hjr, _, _, rfl, rfl, _, rfl, ?_⟩
          refine ite2 (fun hb2 => ?_) (fun hb2 => ?_)
          · refine ⟨_, rfl, .inl ⟨rfl, _, SqL.of hds⟩, _, rfl, _, rfl, D, _, _, _, rfl, rfl, SqL.of hR, atI_int hjr, .inl ⟨_, rfl, _, _, rfl, rfl, ltC, p, _, _, rfl, rfl, hds, hdz, ?_⟩⟩
            obtain ⟨a1, a2, a3, a4⟩ := ap (rs[j] % 1000003)
            refine ⟨_, rfl, _, rfl, D, _, _, _, rfl, rfl, SqL.of a2, atI_int hjr, .inl ⟨_, rfl, _, _, rfl, rfl, ⟨by decide, by decide⟩, _, rfl, _, rfl, D, _, _, j, rfl, rfl, a2, ixN_at (by rw [List.length_map]; exact hjr), ?_⟩⟩
            refine ⟨_, _, _, _, rs.set j _, ds ++ [_], rfl, fun b o hb => ?_, by rw [upd_same, List.map_set], by rw [List.length_set, hrl], (upd_ne nDp.symm).trans a3, a4⟩
            rw [upd_ne (ne_of_none hb hD)]
            exact a1 _ _ hb
          · skip
            refine ⟨_, rfl, _, _, rfl, rfl, .inr ⟨by decide, by decide⟩, _, rfl, _, _, rfl, rfl, .inr ⟨by decide, by decide⟩, _, _, rfl, rfl, _, _, rfl, rfl, .inl ⟨_, rfl, _, _, rfl, rfl, ltA, ?_⟩⟩
            refine ⟨_, rfl, _, rfl, _, _, rfl, rfl, cmA _ _, _, _, rfl, rfl, ⟨by decide, by decide⟩, _, rfl, _, _, rfl, rfl, .inl ⟨_, rfl, _, _, rfl, rfl, ltB, ?_⟩⟩
            refine ⟨_, rfl, .inl ⟨rfl, _, SqL.of hds⟩, _, rfl, _, rfl, _, _, rfl, rfl, cmB _ _, _, _, rfl, rfl, ⟨by decide, by decide⟩, _, rfl, _, _, rfl, rfl, .inr ⟨by decide, by decide⟩, _, _, rfl, rfl, .inl ⟨_, rfl, _, _, rfl, rfl, ltB, p, _, _, rfl, rfl, hds, hdz, ?_⟩⟩
            exact ⟨_, _, _, _, rs, ds ++ [_], rfl, (ap _).1, (ap _).2.1, hrl, (ap _).2.2.1, (ap _).2.2.2⟩
        · skip
          refine ⟨_, rfl, _, _, rfl, rfl, .inr ⟨by decide, by decide⟩, _, rfl, _, _, rfl, rfl, .inr ⟨by decide, by decide⟩, _, _, rfl, rfl, _, _, rfl, rfl, .inl ⟨_, rfl, _, _, rfl, rfl, ltA, ?_⟩⟩
          refine ⟨_, rfl, _, rfl, _, _, rfl, rfl, cmA _ _, _, _, rfl, rfl, ⟨by decide, by decide⟩, _, rfl, _, _, rfl, rfl, .inl ⟨_, rfl, _, _, rfl, rfl, ltB, ?_⟩⟩
          refine ⟨_, rfl, .inl ⟨rfl, _, SqL.of hds⟩, _, rfl, _, rfl, _, _, rfl, rfl, cmB _ _, _, _, rfl, rfl, ⟨by decide, by decide⟩, _, rfl, _, _, rfl, rfl, .inr ⟨by decide, by decide⟩, _, _, rfl, rfl, .inl ⟨_, rfl, _, _, rfl, rfl, ltB, p, _, _, rfl, rfl, hds, hdz, ?_⟩⟩
          exact ⟨_, _, _, _, rs, ds ++ [_], rfl, (ap _).1, (ap _).2.1, hrl, (ap _).2.2.1, (ap _).2.2.2⟩
    · rintro σ H' ⟨o2, o5, o6, o7, rs, ds, rfl, S, hR, hrl, hds, hdl⟩
      exact ⟨_, rfl, k H' p ds S p0 hds⟩
end
end Og
/-! _law_take, _law_value. -/
namespace Og
open PySem PySem.Spec L2
structure HandAt (H : Hp) (hd dr : Addr) : Prop where
  ex : ∃ (i : Nat) (ds : List Int), H hd = some (.lst [.ref dr, .int (i : Int)]) ∧ H dr = some (.lst (ds.map V.int))
theorem HandAt.ne {H : Hp} {hd dr : Addr} (h : HandAt H hd dr) : hd ≠ dr := fun e => by
  obtain ⟨i, ds, h1, h2⟩ := h.ex
  rw [← e, h1] at h2
  cases ds with
  | nil => cases h2
  | cons d ds =>
    have h3 := Option.some.inj h2
    injection h3 with h3
    rw [List.map_cons] at h3
    injection h3 with h3 _
    cases h3
theorem HandAt.frm {H H' : Hp} {hd dr : Addr} (h : HandAt H hd dr) (f : Same H H') : HandAt H' hd dr := by
  obtain ⟨i, ds, h1, h2⟩ := h.ex
  exact ⟨i, ds, f _ _ h1, f _ _ h2⟩
section
variable {P : Program} {w : World} {K : PySem.W.Frag} {mg : Str → Option Value} {base : Heap}
abbrev sTake : Stmt := top 32
abbrev nTake : List Str := ["_law_hand", "_law_many", "_law_at", "_law_draws_here"]
def spTake : Sp := fun vs H Q _ => ∃ (hd dr : Addr) (many : Nat), vs = [.ref hd, vI many] ∧ HandAt H hd dr ∧ 0 < many ∧ ∀ (H' : Hp) (r : Nat), HandAt H' hd dr → Frm [hd] H H' → r < many → Q (vI r) H'
theorem scTake : FnScope nTake ["_law_hand", "_law_many"] (defScope sTake) := ⟨rfl, rfl, rfl, by decide +kernel, rfl, by decide +kernel, by decide +kernel⟩
theorem ok_take (B : Blt mg) (g : GDef K mg "_law_take" sTake []) : C8.Cal P w K mg base 1 "_law_take" spTake [] := by
  refine cal_of g scTake (fun _ _ _ _ _ _ us hl => match us, hl with | [_, _], _ => rfl) (fun vs H Q E h => ?_) (fun f cdv A outer s H vs Q E hr h => ?_)
  · obtain ⟨hd, dr, many, rfl, _⟩ := h; rfl
  obtain ⟨hd, dr, many, rfl, HA, hm, k⟩ := h
  have nd := scTake.nd
  refine ⟨_, (pss_cons (ps_set (i := 2) nd rfl (.inl rfl) (pe_ix ix_list (pv 0) pe_int (fun _ _ => rfl)))
    (pss_cons (ps_asg (pe_op op_add (pv 2) pe_int) (pg_sub (pv 0) pe_int set_list))
    (pss_cons (ps_set (i := 3) nd rfl (.inl rfl) (pe_ix ix_list (pv 0) pe_int (fun _ _ => rfl)))
    (pss_cons (ps_if (pt_cmpR op_ge (pv 2) (pe_callB call_len_seq (by rfl) B.len boot_len (pa_cons (pv 3) pa_nil)) (nomark _)) (pss_one (ps_ret pe_int)) pss_nil)
    (pss_one (ps_ret (pe_op op_mod (pe_op op_fdiv (pe_callTy call_int1 (by rfl) B.int (by decide +kernel) (pa_cons (pe_ix ix_list (pv 3) (pv 2) (fun _ _ => rfl)) pa_nil)) pe_int) (pv 1)))))))), ?_⟩
  have hne := HA.ne
  obtain ⟨i, ds, h1, h2⟩ := HA.ex
  refine ⟨_, rfl, hd, _, 1, _, rfl, rfl, SqL.of h1, rfl, ?_⟩
  refine ⟨_, rfl, _, _, rfl, rfl, _, rfl, hd, _, 1, 1, rfl, rfl, h1, rfl, ?_⟩
  have F1 : Frm [hd] H (upd H hd (.lst [.ref dr, .int ((i : Int) + 1)])) := Frm.upd (by simp) h1 (fun z => z)
  have e1 : upd H hd (.lst [.ref dr, .int ((i : Int) + 1)]) hd = some (.lst [.ref dr, .int ((i + 1 : Nat) : Int)]) := upd_same
  have e2 := F1.old _ _ h2 (by simp [hne.symm])
  change (_ : Ends).nx _ (upd H hd (.lst [.ref dr, .int ((i : Int) + 1)]))
  generalize upd H hd (.lst [.ref dr, .int ((i : Int) + 1)]) = H1 at F1 e1 e2 ⊢
  have HA1 : HandAt H1 hd dr := ⟨i + 1, ds, e1, e2⟩
  refine ⟨_, rfl, hd, _, 0, _, rfl, rfl, SqL.of e1, rfl, ?_⟩
  refine ⟨_, rfl, _, rfl, dr, _, rfl, .inl (SqL.of e2), _, _, rfl, rfl, _, rfl, ?_⟩
  by_cases hi : i < ds.length
  · refine iteN (decide_eq_false (by rw [List.length_map]; omega)) ?_
    refine ⟨_, rfl, _, rfl, dr, _, _, _, rfl, rfl, SqL.of e2, atI_int hi, .inl ⟨_, rfl, _, _, rfl, rfl, ⟨by decide, by decide⟩, _, rfl, _, _, rfl, rfl, (by show (0 : Int) < (many : Int); omega), ?_⟩⟩
    have b1 := Int.emod_nonneg (ds[i] / 7) (b := (many : Int)) (by omega)
    have b2 := Int.emod_lt_of_pos (ds[i] / 7) (b := (many : Int)) (by omega)
    have q := k H1 ((ds[i] / 7) % (many : Int)).toNat HA1 F1 (by omega)
    have e : vI ((ds[i] / 7) % (many : Int)).toNat = .int ((ds[i] / 7) % (many : Int)) := by
      show V.int _ = V.int _
      rw [Int.toNat_of_nonneg b1]
    rw [e] at q
    exact q
  · refine iteP (decide_eq_true (by rw [List.length_map]; omega)) ?_
    exact k H1 0 HA1 F1 hm
/-! ### _law_value -/
def wordsV : List Str := ["yes", "a", "quote", "f0", "b2", "done", "spin", "x"]
mutual
def pok (ok : Str → Bool) : PV → Bool
  | .w x => ok x
  | .l xs => poks ok xs
def poks (ok : Str → Bool) : List PV → Bool
  | [] => true
  | x :: r => pok ok x && poks ok r
end
def vb : Nat → Nat
  | 0 => 1
  | d + 1 => 1 + 3 * vb d
theorem vb_pos (d : Nat) : 1 ≤ vb d := by cases d <;> simp [vb]
/-- what such a value is -/
structure ValOk (d : Nat) (x : PV) : Prop where
  sz : psz x ≤ vb d
  dp : pdp x ≤ d
  st : pok PyData.strOk x = true
abbrev sValue : Stmt := top 33
abbrev nValue : List Str := ["_law_hand", "_law_depth", "_law_k"]
def spValue (K : PySem.W.Frag) (d : Nat) : Sp := fun vs H Q _ => ∃ (hd dr : Addr), vs = [.ref hd, vI d] ∧ HandAt H hd dr ∧ ∀ (H' : Hp) (v : V) (x : PV), HandAt H' hd dr → Frm [hd] H H' → Rep K H' x v → ValOk d x → Q v H'
theorem scValue : FnScope nValue ["_law_hand", "_law_depth"] (defScope sValue) := ⟨rfl, rfl, rfl, by decide +kernel, rfl, by decide +kernel, by decide +kernel⟩
theorem valOk_w {d r : Nat} (h : r < 8) : ∃ z, (wordsV.map V.str)[r]? = some (.str z) ∧ ValOk d (.w z) := by
  have hr : r < wordsV.length := h
  refine ⟨wordsV[r], by rw [List.getElem?_map, List.getElem?_eq_getElem hr] <;> rfl, ⟨by simp only [psz]; exact vb_pos d, by simp [pdp], ?_⟩⟩
  have : wordsV.all PyData.strOk = true := by decide +kernel
  exact List.all_eq_true.mp this _ (List.getElem_mem hr)
theorem vals_ok {d : Nat} : ∀ {xs : List PV}, (∀ x ∈ xs, ValOk d x) → pszs xs ≤ xs.length * vb d ∧ pdps xs ≤ d ∧ poks PyData.strOk xs = true
  | [], _ => ⟨by simp [pszs], by simp [pdps], rfl⟩
  | x :: r, h => by
    obtain ⟨h1, h2, h3⟩ := vals_ok (xs := r) (fun y hy => h y (List.mem_cons_of_mem _ hy))
    have hx := h x List.mem_cons_self
    refine ⟨?_, ?_, ?_⟩
    · simp only [pszs, List.length_cons, Nat.succ_mul]
      have := hx.sz
      omega
    · simp only [pdps]
      have := hx.dp
      omega
    · simp only [poks, Bool.and_eq_true]
      exact ⟨hx.st, h3⟩
theorem valOk_l {d : Nat} {xs : List PV} (h : ∀ x ∈ xs, ValOk d x) (hl : xs.length ≤ 3) : ValOk (d + 1) (.l xs) := by
  obtain ⟨h1, h2, h3⟩ := vals_ok h
  refine ⟨?_, ?_, h3⟩
  · simp only [psz, vb]
    have := Nat.mul_le_mul_right (vb d) hl
    omega
  · simp only [pdp]
    omega
theorem ok_value0 (B : Blt mg) (c__law_take : C8.Cal P w K mg base 1 "_law_take" spTake []) (g : GDef K mg "_law_value" sValue []) : C8.Cal P w K mg base 2 "_law_value" (spValue K 0) [] := by
  refine cal_of g scValue (fun _ _ _ _ _ _ us hl => match us, hl with | [_, _], _ => rfl) (fun vs H Q E h => ?_) (fun f cdv A outer s H vs Q E hr h => ?_)
  · obtain ⟨hd, dr, rfl, _⟩ := h; rfl
  obtain ⟨hd, dr, rfl, HA, k⟩ := h
  refine ⟨_, (pss_cons (ps_if (PW.pt (pw_or (pt_cmpR op_eq (pv 1) pe_int (nomark _)) (pw_or1 (pt_cmpR op_eq (C8.pe_c c__law_take hr (by decide) (by rfl) (pa_cons (pv 0) (pa_cons pe_int pa_nil))) pe_int (nomark _))))) (pss_one (ps_ret (pe_ix ix_list (pe_lst (pa_cons pe_str (pa_cons pe_str (pa_cons pe_str (pa_cons pe_str (pa_cons pe_str (pa_cons pe_str (pa_cons pe_str (pa_cons pe_str pa_nil))))))))) (C8.pe_c c__law_take hr (by decide) (by rfl) (pa_cons (pv 0) (pa_cons pe_int pa_nil))) (fun _ _ => rfl)))) pss_nil)
    (pss_one ps_never)), ?_⟩
  refine ⟨_, rfl, rfl, _, rfl, iteP (decide_eq_true rfl) ?_⟩
  refine ⟨(by show 8 ≤ sizeLine; decide), fun l hl => ?_⟩
  have S1 : Same H (upd H l (.lst (wordsV.map V.str))) := Same.new hl
  refine ⟨_, rfl, hd, dr, 8, rfl, HA.frm S1, (by decide), fun H2 r HA2 F2 hr8 => ?_⟩
  have nlh : l ≠ hd := fun e => by
    obtain ⟨i, ds, h1, _⟩ := HA.ex
    rw [e, h1] at hl; cases hl
  have hl2 : H2 l = some (.lst (wordsV.map V.str)) := F2.old _ _ upd_same (by simp [nlh])
  obtain ⟨z, hz, vz⟩ := valOk_w (d := 0) hr8
  exact ⟨l, _, (r : Int), _, rfl, rfl, SqL.of hl2, atI_of hz, k H2 _ (.w z) HA2 ((Frm.of_same S1).trans F2) rfl vz⟩
theorem ok_valueS (d : Nat) (hd2 : d ≤ 5) (B : Blt mg) (c__law_take : C8.Cal P w K mg base 1 "_law_take" spTake []) (c__law_value : C8.Cal P w K mg base (2 + d) "_law_value" (spValue K d) []) (g : GDef K mg "_law_value" sValue []) : C8.Cal P w K mg base (3 + d) "_law_value" (spValue K (d + 1)) [] := by
  rw [show 3 + d = (2 + d) + 1 by omega]
  refine cal_of g scValue (fun _ _ _ _ _ _ us hl => match us, hl with | [_, _], _ => rfl) (fun vs H Q E h => ?_) (fun f cdv A outer s H vs Q E hr h => ?_)
  · obtain ⟨hd, dr, rfl, _⟩ := h; rfl
  obtain ⟨hd, dr, rfl, HA, k⟩ := h
  have nd := scValue.nd
  refine ⟨_, (pss_cons (ps_if (PW.pt (pw_or (pt_cmpR op_eq (pv 1) pe_int (nomark _)) (pw_or1 (pt_cmpR op_eq (C8.pe_c c__law_take hr (by omega) (by rfl) (pa_cons (pv 0) (pa_cons pe_int pa_nil))) pe_int (nomark _))))) (pss_one (ps_ret (pe_ix ix_list (pe_lst (pa_cons pe_str (pa_cons pe_str (pa_cons pe_str (pa_cons pe_str (pa_cons pe_str (pa_cons pe_str (pa_cons pe_str (pa_cons pe_str pa_nil))))))))) (C8.pe_c c__law_take hr (by omega) (by rfl) (pa_cons (pv 0) (pa_cons pe_int pa_nil))) (fun _ _ => rfl)))) pss_nil)
    (pss_one (ps_ret (pe_callTy call_tuple_of (by rfl) B.tuple (by decide +kernel) (pa_cons (pe_lc (own := [("_law_k", 2)]) (g := gName 2) (tt := tYes) (te := tCall (spValue K d) [] C8.E0 (tCons (tVar 0) (tCons (tOp (rI0 fun i j => .int (i - j)) (tVar 1) (tC (.int 1))) tNil))) rfl nd (pi_range1 rfl B.range (pa_cons (C8.pe_c c__law_take hr (by omega) (by rfl) (pa_cons (pv 0) (pa_cons pe_int pa_nil))) pa_nil)) (blkOk_by (N := nValue) (sc := defScope sValue) (by decide +kernel)) (fun _ _ _ _ _ => pg_name (i := 2) nd rfl (Or.inl rfl)) (fun _ _ _ _ _ => pts_nil) (fun _ _ _ _ _ => C8.pe_c c__law_value hr (by omega) (by rfl) (pa_cons (pv 0) (pa_cons (pe_op op_sub (pv 1) pe_int) pa_nil)))) pa_nil))))), ?_⟩
  refine ⟨_, rfl, rfl, _, rfl, ?_⟩
  rw [dec0]
  refine iteN (decide_eq_false (by omega)) ?_
  refine ⟨_, rfl, hd, dr, 3, rfl, HA, (by decide), fun H1 r1 HA1 F1 h1 => ⟨rfl, _, rfl, ?_⟩⟩
  rw [dec0]
  by_cases hz : r1 = 0
  · refine iteP (decide_eq_true hz) ?_
    refine ⟨(by show 8 ≤ sizeLine; decide), fun l hl => ?_⟩
    have S1 : Same H1 (upd H1 l (.lst (wordsV.map V.str))) := Same.new hl
    refine ⟨_, rfl, hd, dr, 8, rfl, HA1.frm S1, (by decide), fun H2 r HA2 F2 hr8 => ?_⟩
    have nlh : l ≠ hd := fun e => by
      obtain ⟨i, ds, h1, _⟩ := HA1.ex
      rw [e, h1] at hl; cases hl
    have hl2 : H2 l = some (.lst (wordsV.map V.str)) := F2.old _ _ upd_same (by simp [nlh])
    obtain ⟨z, hz, vz⟩ := valOk_w (d := d + 1) hr8
    exact ⟨l, _, (r : Int), _, rfl, rfl, SqL.of hl2, atI_of hz, k H2 _ (.w z) HA2 (F1.trans ((Frm.of_same S1).trans F2)) rfl vz⟩
  · refine iteN (decide_eq_false hz) ?_
    refine ⟨_, rfl, hd, dr, 4, rfl, HA1, (by decide), fun H2 n HA2 F2 hn => ⟨(n : Int), rfl, by omega, by omega, fun D hD => ?_⟩⟩
    rw [Int.toNat_natCast]
    have nDh : D ≠ hd := fun e => by
      obtain ⟨i, ds, h1, _⟩ := HA2.ex
      rw [e, h1] at hD; cases hD
    refine lc_range (lo := 0) (n := n) (fun i H' => HandAt H' hd dr ∧ Frm [hd] H2 H' ∧ ∃ (us : List V) (xs : List PV), H' D = some (.lst us) ∧ Reps K H' xs us ∧ xs.length = i ∧ ∀ x ∈ xs, ValOk d x) ⟨HA2.frm (Same.new hD), Frm.of_same (Same.new hD), [], [], upd_same, rfl, rfl, by simp⟩ ?_ ?_
    · rintro i H' hi ⟨HA', F', us, xs, hus, hR, hxl, hok⟩
      refine ⟨rfl, ?_⟩
      dsimp only [tYes]
      rw [if_pos rfl]
      refine ⟨_, rfl, _, rfl, _, _, rfl, rfl, hd, dr, (by show [V.ref hd, V.int (((d + 1 : Nat) : Int) - 1)] = [V.ref hd, V.int (d : Int)]; rw [show (((d + 1 : Nat) : Int) - 1) = (d : Int) by omega]), HA', fun H3 v x HA3 F3 hrep hval => ?_⟩
      have hD3 := F3.old _ _ hus (by simp [nDh])
      have hul := hR.length
      have fx : ∀ b o, H' b = some o → Fix o → upd H3 D (.lst (us ++ [v])) b = some o := fun b o h hf => by
        rw [upd_ne (fun e => by rw [e, hus] at h; cases h; exact hf)]
        exact F3.fix _ _ h hf
      have fx3 : ∀ b o, H3 b = some o → Fix o → upd H3 D (.lst (us ++ [v])) b = some o := fun b o h hf => by
        rw [upd_ne (fun e => by rw [e, hD3] at h; cases h; exact hf)]
        exact h
      obtain ⟨i3, ds3, q1, q2⟩ := HA3.ex
      have nDd : dr ≠ D := fun e => by
        obtain ⟨_, _, _, q⟩ := HA2.ex
        rw [e, hD] at q; cases q
      refine ⟨us, hD3, (by rw [hul]; exact small7 (by omega)), ⟨i3, ds3, (upd_ne nDh.symm).trans q1, (upd_ne nDd).trans q2⟩, (F'.trans F3).updN hD, us ++ [v], xs ++ [x], upd_same, (Reps.keep fx hR).append ⟨v, [], rfl, Rep.keep fx3 hrep, rfl⟩, by simp [hxl], fun y hy => ?_⟩
      rcases List.mem_append.mp hy with hy | hy
      · exact hok y hy
      · rw [List.mem_singleton.mp hy]; exact hval
    · rintro H' ⟨HA', F', us, xs, hus, hR, hxl, hok⟩
      refine ⟨D, _, rfl, .inl ⟨SqL.of hus, fun l hl => ?_⟩⟩
      have S4 : Same H' (upd H' l (.tup us)) := Same.new hl
      exact k _ _ (.l xs) (HA'.frm S4) (F1.trans (F2.trans (F'.trans (Frm.of_same S4)))) ⟨l, us, rfl, SqT.of upd_same, Reps.keep (fun b o h _ => S4 _ _ h) hR⟩ (valOk_l hok (by omega))
end
end Og
/-! _law_expression. -/
namespace Og
open PySem PySem.Spec L2
inductive Exp0 (ps : List Str) : PV → Prop
  | par {p} (h : p ∈ ps) : Exp0 ps (.w p)
  | quo {v} (h : ValOk 2 v) : Exp0 ps (.l [.w "quote", v])
inductive Exp1 (ps : List Str) : PV → Prop
  | base {x} (h : Exp0 ps x) : Exp1 ps x
  | iff {a b c} (h1 : Exp0 ps a) (h2 : Exp0 ps b) (h3 : Exp0 ps c) : Exp1 ps (.l [.w "if", a, b, c])
  | same {a b} (h1 : Exp0 ps a) (h2 : Exp0 ps b) : Exp1 ps (.l [.w "same", a, b])
  | join {a b} (h1 : Exp0 ps a) (h2 : Exp0 ps b) : Exp1 ps (.l [.w "join", a, b])
  | word {a} (h1 : Exp0 ps a) : Exp1 ps (.l [.w "word", a])
  | head {a} (h1 : Exp0 ps a) : Exp1 ps (.l [.w "head", a])
  | tail {a} (h1 : Exp0 ps a) : Exp1 ps (.l [.w "tail", a])
section
variable {P : Program} {w : World} {K : PySem.W.Frag} {mg : Str → Option Value} {base : Heap}
abbrev sExpr : Stmt := top 34
abbrev nExpr : List Str := ["_law_hand", "_law_parameters", "_law_calls", "_law_depth", "_law_kind", "_law_parts", "_law_left", "_law_name", "_law_many", "_law_k"]
def spExpr (K : PySem.W.Frag) (d : Nat) (ok : List Str → PV → Prop) : Sp := fun vs H Q _ => ∃ (hd pa ca dr : Addr) (ps : List Str), vs = [.ref hd, .ref pa, .ref ca, vI d] ∧ HandAt H hd dr ∧ SqT K H pa (ps.map .str) ∧ H ca = some (.lst []) ∧
  ∀ (H' : Hp) (v : V) (x : PV), HandAt H' hd dr → Frm [hd] H H' → Rep K H' x v → ok ps x → Q v H'
theorem scExpr : FnScope nExpr ["_law_hand", "_law_parameters", "_law_calls", "_law_depth"] (defScope sExpr) := ⟨rfl, rfl, rfl, by decide +kernel, rfl, by decide +kernel, by decide +kernel⟩
theorem HandAt.nca {H : Hp} {hd dr ca : Addr} (h : HandAt H hd dr) (hc : H ca = some (.lst [])) : ca ≠ hd := fun e => by
  obtain ⟨i, ds, h1, _⟩ := h.ex
  rw [e, h1] at hc; cases hc
theorem rep2 {H : Hp} {x y : PV} {u v : V} (a : Rep K H x u) (b : Rep K H y v) : Reps K H [x, y] [u, v] := ⟨_, _, rfl, a, _, _, rfl, b, rfl⟩
theorem ok_expr0 (B : Blt mg) (c__law_take : C8.Cal P w K mg base 1 "_law_take" spTake []) (c__law_value : C8.Cal P w K mg base 4 "_law_value" (spValue K 2) []) (g : GDef K mg "_law_expression" sExpr []) : C8.Cal P w K mg base 5 "_law_expression" (spExpr K 0 Exp0) [] := by
  refine cal_of g scExpr (fun _ _ _ _ _ _ us hl => match us, hl with | [_, _, _, _], _ => rfl) (fun vs H Q E h => ?_) (fun f cdv A outer s H vs Q E hr h => ?_)
  · obtain ⟨hd, pa, ca, dr, ps, rfl, _⟩ := h; rfl
  obtain ⟨hd, pa, ca, dr, ps, rfl, HA, hps, hca, k⟩ := h
  have nd := scExpr.nd
  refine ⟨_, (pss_cons (ps_set (i := 4) nd rfl (.inl rfl) (C8.pe_c c__law_take hr (by decide) (by rfl) (pa_cons (pv 0) (pa_cons pe_int pa_nil)))) (pss_cons (ps_if (PW.pt (pw_or (pt_cmpR op_eq (pv 3) pe_int (nomark _)) (pw_or1 (pt_cmpR op_lt (pv 4) pe_int (nomark _))))) (pss_cons (ps_if (PW.pt (pw_and (pt_cmpR op_gt (pe_callB call_len_seq (by rfl) B.len boot_len (pa_cons (pv 1) pa_nil)) pe_int (nomark _)) (pw_and1 (pt_cmpR op_gt (C8.pe_c c__law_take hr (by decide) (by rfl) (pa_cons (pv 0) (pa_cons pe_int pa_nil))) pe_int (nomark _))))) (pss_one (ps_ret (pe_ix ix_tup (pv 1) (C8.pe_c c__law_take hr (by decide) (by rfl) (pa_cons (pv 0) (pa_cons (pe_callB call_len_seq (by rfl) B.len boot_len (pa_cons (pv 1) pa_nil)) pa_nil))) (fun _ _ => rfl)))) pss_nil)
    (pss_one (ps_ret (pe_tup (pa_cons pe_str (pa_cons (C8.pe_c c__law_value hr (by decide) (by rfl) (pa_cons (pv 0) (pa_cons pe_int pa_nil))) pa_nil)))))) pss_nil) pss_never)), ?_⟩
  refine ⟨_, rfl, hd, dr, 12, rfl, HA, (by decide), fun H1 kind HA1 F1 hk => ?_⟩
  have hps1 : SqT K H1 pa (ps.map .str) := SqT.keep hps F1.fix
  refine ⟨_, rfl, rfl, _, rfl, iteP (decide_eq_true rfl) ?_⟩
  refine ⟨_, rfl, pa, _, rfl, .inr hps1, _, _, rfl, rfl, _, rfl, ?_⟩
  by_cases hpl : ps.length = 0
  · refine iteN (decide_eq_false (by rw [List.length_map]; omega)) ?_
    refine ⟨_, rfl, hd, dr, rfl, HA1, fun H5 v x HA5 F5 hrep hval => ⟨(by show 2 ≤ sizeLine; decide), fun t ht => ?_⟩⟩
    have S6 : Same H5 (upd H5 t (.tup [.str "quote", v])) := Same.new ht
    exact k _ _ (.l [.w "quote", x]) (HA5.frm S6) (F1.trans (F5.trans (Frm.of_same S6))) ⟨t, _, rfl, SqT.of upd_same, rep2 rfl (Rep.keep (fun b o h _ => S6 _ _ h) hrep)⟩ (.quo hval)
  · refine iteP (decide_eq_true (by rw [List.length_map]; omega)) ?_
    refine ⟨_, rfl, hd, dr, 3, rfl, HA1, (by decide), fun H3 r3 HA3 F3 h3 => ⟨_, _, rfl, rfl, _, rfl, ?_⟩⟩
    by_cases hz : r3 = 0
    · refine iteN (decide_eq_false (by omega)) ?_
      have F13 := F1.trans F3
      refine ⟨_, rfl, hd, dr, rfl, HA3, fun H5 v x HA5 F5 hrep hval => ⟨(by show 2 ≤ sizeLine; decide), fun t ht => ?_⟩⟩
      have S6 : Same H5 (upd H5 t (.tup [.str "quote", v])) := Same.new ht
      exact k _ _ (.l [.w "quote", x]) (HA5.frm S6) (F13.trans (F5.trans (Frm.of_same S6))) ⟨t, _, rfl, SqT.of upd_same, rep2 rfl (Rep.keep (fun b o h _ => S6 _ _ h) hrep)⟩ (.quo hval)
    · refine iteP (decide_eq_true (by omega)) ?_
      have hps3 : SqT K H3 pa (ps.map .str) := SqT.keep hps1 F3.fix
      refine ⟨_, rfl, _, rfl, _, rfl, pa, _, rfl, .inr hps3, hd, dr, (ps.map V.str).length, rfl, HA3, (by rw [List.length_map]; omega), fun H4 r4 HA4 F4 h4 => ?_⟩
      have hr4 : r4 < ps.length := by rw [List.length_map] at h4; exact h4
      refine ⟨pa, _, (r4 : Int), .str ps[r4], rfl, rfl, SqT.keep hps3 F4.fix, atI_of (by rw [List.getElem?_map, List.getElem?_eq_getElem hr4] <;> rfl), ?_⟩
      exact k _ _ (.w ps[r4]) HA4 (F1.trans (F3.trans F4)) rfl (.par (List.getElem_mem hr4))
theorem lt2 : (0 : Int) < 2 := by decide
theorem ok_expr1 (B : Blt mg) (c__law_take : C8.Cal P w K mg base 1 "_law_take" spTake []) (c__law_value : C8.Cal P w K mg base 4 "_law_value" (spValue K 2) []) (c__law_expression : C8.Cal P w K mg base 5 "_law_expression" (spExpr K 0 Exp0) []) (g : GDef K mg "_law_expression" sExpr []) : C8.Cal P w K mg base 6 "_law_expression" (spExpr K 1 Exp1) [] := by
  refine cal_of g scExpr (fun _ _ _ _ _ _ us hl => match us, hl with | [_, _, _, _], _ => rfl) (fun vs H Q E h => ?_) (fun f cdv A outer s H vs Q E hr h => ?_)
  · obtain ⟨hd, pa, ca, dr, ps, rfl, _⟩ := h; rfl
  obtain ⟨hd, pa, ca, dr, ps, rfl, HA, hps, hca, k⟩ := h
  have nd := scExpr.nd
  have nch := HA.nca hca
  refine ⟨_, (pss_cons (ps_set (i := 4) nd rfl (.inl rfl) (C8.pe_c c__law_take hr (by decide) (by rfl) (pa_cons (pv 0) (pa_cons pe_int pa_nil))))
    (pss_cons (ps_if (PW.pt (pw_or (pt_cmpR op_eq (pv 3) pe_int (nomark _)) (pw_or1 (pt_cmpR op_lt (pv 4) pe_int (nomark _))))) (pss_cons (ps_if (PW.pt (pw_and (pt_cmpR op_gt (pe_callB call_len_seq (by rfl) B.len boot_len (pa_cons (pv 1) pa_nil)) pe_int (nomark _)) (pw_and1 (pt_cmpR op_gt (C8.pe_c c__law_take hr (by decide) (by rfl) (pa_cons (pv 0) (pa_cons pe_int pa_nil))) pe_int (nomark _))))) (pss_one (ps_ret (pe_ix ix_tup (pv 1) (C8.pe_c c__law_take hr (by decide) (by rfl) (pa_cons (pv 0) (pa_cons (pe_callB call_len_seq (by rfl) B.len boot_len (pa_cons (pv 1) pa_nil)) pa_nil))) (fun _ _ => rfl)))) pss_nil)
    (pss_one (ps_ret (pe_tup (pa_cons pe_str (pa_cons (C8.pe_c c__law_value hr (by decide) (by rfl) (pa_cons (pv 0) (pa_cons pe_int pa_nil))) pa_nil)))))) pss_nil)
    (pss_cons (ps_if (pt_cmpR op_lt (pv 4) pe_int (nomark _)) (pss_cons (ps_setLc (i := 5) (own := [("_law_k", 9)]) (g := gName 9) (tt := tYes) (te := (tCall (spExpr K 0 Exp0) [] C8.E0 (tCons (tVar 0) (tCons (tVar 1) (tCons (tVar 2) (tCons (tOp (rI0 fun i j => .int (i - j)) (tVar 3) (tC (.int 1))) tNil)))))) rfl nd rfl rfl (sw_true rfl rfl rfl (by decide +kernel)) (pi_range1 rfl B.range (pa_cons pe_int pa_nil)) (blkOk_by (N := nExpr) (sc := defScope sExpr) (by decide +kernel)) (fun _ _ _ _ _ => pg_name (i := 9) nd rfl (Or.inl rfl)) (fun _ _ _ _ _ => pts_nil) (fun _ _ _ _ _ => (C8.pe_c c__law_expression hr (by decide) (by rfl) (pa_cons (pv 0) (pa_cons (pv 1) (pa_cons (pv 2) (pa_cons (pe_op op_sub (pv 3) pe_int) pa_nil)))))))
    (pss_one (ps_ret (pe_tup (pa_cons pe_str (pa_cons (pe_ix ix_list (pv 5) pe_int (fun _ _ => rfl)) (pa_cons (pe_ix ix_list (pv 5) pe_int (fun _ _ => rfl)) (pa_cons (pe_ix ix_list (pv 5) pe_int (fun _ _ => rfl)) pa_nil)))))))) pss_nil)
    (pss_cons (ps_if (PW.pt (pw_or (pt_cmpR op_eq (pv 4) pe_int (nomark _)) (pw_or1 (pt_cmpR op_eq (pv 4) pe_int (nomark _))))) (pss_cons (ps_set (i := 6) nd rfl (.inl rfl) (C8.pe_c c__law_expression hr (by decide) (by rfl) (pa_cons (pv 0) (pa_cons (pv 1) (pa_cons (pv 2) (pa_cons (pe_op op_sub (pv 3) pe_int) pa_nil))))))
    (pss_one (ps_ret (pe_tup (pa_cons pe_str (pa_cons (pv 6) (pa_cons (C8.pe_c c__law_expression hr (by decide) (by rfl) (pa_cons (pv 0) (pa_cons (pv 1) (pa_cons (pv 2) (pa_cons (pe_op op_sub (pv 3) pe_int) pa_nil))))) pa_nil))))))) pss_nil)
    (pss_cons (ps_if (pt_cmpR op_lt (pv 4) pe_int (nomark _)) (pss_cons (ps_set (i := 6) nd rfl (.inl rfl) (C8.pe_c c__law_expression hr (by decide) (by rfl) (pa_cons (pv 0) (pa_cons (pv 1) (pa_cons (pv 2) (pa_cons (pe_op op_sub (pv 3) pe_int) pa_nil))))))
    (pss_one (ps_ret (pe_tup (pa_cons pe_str (pa_cons (pv 6) (pa_cons (C8.pe_c c__law_expression hr (by decide) (by rfl) (pa_cons (pv 0) (pa_cons (pv 1) (pa_cons (pv 2) (pa_cons (pe_op op_sub (pv 3) pe_int) pa_nil))))) pa_nil))))))) pss_nil)
    (pss_cons (ps_if (pt_cmpR op_eq (pv 4) pe_int (nomark _)) (pss_one (ps_ret (pe_tup (pa_cons pe_str (pa_cons (C8.pe_c c__law_expression hr (by decide) (by rfl) (pa_cons (pv 0) (pa_cons (pv 1) (pa_cons (pv 2) (pa_cons (pe_op op_sub (pv 3) pe_int) pa_nil))))) pa_nil))))) pss_nil)
    (pss_cons (ps_if (PW.pt (pw_or (pt_cmpR op_lt (pv 4) pe_int (nomark _)) (pw_or1 (pt_cmpR op_eq (pe_callB call_len_seq (by rfl) B.len boot_len (pa_cons (pv 2) pa_nil)) pe_int (nomark _))))) (pss_one (ps_ret (pe_tup (pa_cons (pe_ix ix_list (pe_lst (pa_cons pe_str (pa_cons pe_str pa_nil))) (pe_op op_mod (pv 4) pe_int) (fun _ _ => rfl)) (pa_cons (C8.pe_c c__law_expression hr (by decide) (by rfl) (pa_cons (pv 0) (pa_cons (pv 1) (pa_cons (pv 2) (pa_cons (pe_op op_sub (pv 3) pe_int) pa_nil))))) pa_nil))))) pss_nil)
    pss_never))))))), ?_⟩
  refine ⟨_, rfl, hd, dr, 12, rfl, HA, (by decide), fun H1 kind HA1 F1 hk => ?_⟩
  have hps1 : SqT K H1 pa (ps.map .str) := SqT.keep hps F1.fix
  have hca1 := F1.old _ _ hca (by simp [nch])
  refine ⟨_, rfl, rfl, _, rfl, iteN (by rfl) ⟨_, rfl, _, _, rfl, rfl, _, rfl, ?_⟩⟩
  by_cases k2 : kind < 2
  · refine iteP (decide_eq_true (by omega)) ?_
    refine ⟨_, rfl, pa, _, rfl, .inr hps1, _, _, rfl, rfl, _, rfl, ?_⟩
    by_cases hpl : ps.length = 0
    · refine iteN (decide_eq_false (by rw [List.length_map]; omega)) ?_
      refine ⟨_, rfl, hd, dr, rfl, HA1, fun H5 v x HA5 F5 hrep hval => ⟨(by show 2 ≤ sizeLine; decide), fun t ht => ?_⟩⟩
      have S6 : Same H5 (upd H5 t (.tup [.str "quote", v])) := Same.new ht
      exact k _ _ (.l [.w "quote", x]) (HA5.frm S6) (F1.trans (F5.trans (Frm.of_same S6))) ⟨t, _, rfl, SqT.of upd_same, rep2 rfl (Rep.keep (fun b o h _ => S6 _ _ h) hrep)⟩ (.base (.quo hval))
    · refine iteP (decide_eq_true (by rw [List.length_map]; omega)) ?_
      refine ⟨_, rfl, hd, dr, 3, rfl, HA1, (by decide), fun H3 r3 HA3 F3 h3 => ⟨_, _, rfl, rfl, _, rfl, ?_⟩⟩
      by_cases hz : r3 = 0
      · refine iteN (decide_eq_false (by omega)) ?_
        have F13 := F1.trans F3
        refine ⟨_, rfl, hd, dr, rfl, HA3, fun H5 v x HA5 F5 hrep hval => ⟨(by show 2 ≤ sizeLine; decide), fun t ht => ?_⟩⟩
        have S6 : Same H5 (upd H5 t (.tup [.str "quote", v])) := Same.new ht
        exact k _ _ (.l [.w "quote", x]) (HA5.frm S6) (F13.trans (F5.trans (Frm.of_same S6))) ⟨t, _, rfl, SqT.of upd_same, rep2 rfl (Rep.keep (fun b o h _ => S6 _ _ h) hrep)⟩ (.base (.quo hval))
      · refine iteP (decide_eq_true (by omega)) ?_
        have hps3 : SqT K H3 pa (ps.map .str) := SqT.keep hps1 F3.fix
        refine ⟨_, rfl, _, rfl, _, rfl, pa, _, rfl, .inr hps3, hd, dr, (ps.map V.str).length, rfl, HA3, (by rw [List.length_map]; omega), fun H4 r4 HA4 F4 h4 => ?_⟩
        have hr4 : r4 < ps.length := by rw [List.length_map] at h4; exact h4
        refine ⟨pa, _, (r4 : Int), .str ps[r4], rfl, rfl, SqT.keep hps3 F4.fix, atI_of (by rw [List.getElem?_map, List.getElem?_eq_getElem hr4] <;> rfl), ?_⟩
        exact k _ _ (.w ps[r4]) HA4 (F1.trans (F3.trans F4)) rfl (.base (.par (List.getElem_mem hr4)))
  refine iteN (decide_eq_false (by omega)) ?_
  refine ⟨_, rfl, _, _, rfl, rfl, _, rfl, ?_⟩
  by_cases k4 : kind < 4
  · refine iteP (decide_eq_true (by omega)) ?_
    refine ⟨3, rfl, by omega, by omega, fun D hD => ?_⟩
    have nDh : D ≠ hd := fun e => by
      obtain ⟨i, ds, h1, _⟩ := HA1.ex
      rw [e, h1] at hD; cases hD
    refine lc_range (lo := 0) (n := 3) (fun i H' => HandAt H' hd dr ∧ Frm [hd] H1 H' ∧ ∃ (us : List V) (xs : List PV), H' D = some (.lst us) ∧ Reps K H' xs us ∧ xs.length = i ∧ ∀ x ∈ xs, Exp0 ps x) ⟨HA1.frm (Same.new hD), Frm.of_same (Same.new hD), [], [], upd_same, rfl, rfl, by simp⟩ ?_ ?_
    · rintro i H' hi ⟨HA', F', us, xs, hus, hR, hxl, hok⟩
      refine ⟨rfl, ?_⟩
      dsimp only [tYes]
      rw [if_pos rfl]
      refine ⟨_, rfl, _, rfl, _, rfl, _, rfl, _, _, rfl, rfl, hd, pa, ca, dr, ps, rfl, HA', (SqT.keep hps1 F'.fix), (F'.old _ _ hca1 (by simp [nch])), fun H3 v x HA3 F3 hrep hval => ?_⟩
      have hD3 := F3.old _ _ hus (by simp [nDh])
      have hul := hR.length
      have fx : ∀ b o, H' b = some o → Fix o → upd H3 D (.lst (us ++ [v])) b = some o := fun b o h hf => by
        rw [upd_ne (fun e => by rw [e, hus] at h; cases h; exact hf)]
        exact F3.fix _ _ h hf
      have fx3 : ∀ b o, H3 b = some o → Fix o → upd H3 D (.lst (us ++ [v])) b = some o := fun b o h hf => by
        rw [upd_ne (fun e => by rw [e, hD3] at h; cases h; exact hf)]
        exact h
      obtain ⟨i3, ds3, q1, q2⟩ := HA3.ex
      have nDd : dr ≠ D := fun e => by
        obtain ⟨_, _, _, q⟩ := HA1.ex
        rw [e, hD] at q; cases q
      refine ⟨us, hD3, (by rw [hul]; exact small7 (by omega)), ⟨i3, ds3, (upd_ne nDh.symm).trans q1, (upd_ne nDd).trans q2⟩, (F'.trans F3).updN hD, us ++ [v], xs ++ [x], upd_same, (Reps.keep fx hR).append ⟨v, [], rfl, Rep.keep fx3 hrep, rfl⟩, by simp [hxl], fun y hy => ?_⟩
      rcases List.mem_append.mp hy with hy | hy
      · exact hok y hy
      · rw [List.mem_singleton.mp hy]; exact hval
    · rintro H' ⟨HA', F', us, xs, hus, hR, hxl, hok⟩
      match xs, hxl, hR, hok with
      | [a, b, c], _, hR, hok =>
        obtain ⟨va, _, rfl, ra, vb, _, rfl, rb, vc, _, rfl, rc, hn⟩ := hR
        cases hn
        refine ⟨_, rfl, D, _, 0, _, rfl, rfl, SqL.of hus, rfl, _, rfl, D, _, 1, _, rfl, rfl, SqL.of hus, rfl, _, rfl, D, _, 2, _, rfl, rfl, SqL.of hus, rfl, (by show 4 ≤ sizeLine; decide), fun t ht => ?_⟩
        have S4 : Same H' (upd H' t (.tup [.str "if", va, vb, vc])) := Same.new ht
        exact k _ _ (.l [.w "if", a, b, c]) (HA'.frm S4) (F1.trans (F'.trans (Frm.of_same S4))) ⟨t, _, rfl, SqT.of upd_same, ⟨_, _, rfl, rfl, ⟨_, _, rfl, Rep.keep (fun b o h _ => S4 _ _ h) ra, rep2 (Rep.keep (fun b o h _ => S4 _ _ h) rb) (Rep.keep (fun b o h _ => S4 _ _ h) rc)⟩⟩⟩ (.iff (hok a (by simp)) (hok b (by simp)) (hok c (by simp)))
  refine iteN (decide_eq_false (by omega)) ?_
  by_cases k6 : kind < 6
  · refine ⟨_, rfl, rfl, _, rfl, ?_⟩
    by_cases e4 : kind = 4
    · refine iteP (decide_eq_true (by rw [e4]; rfl)) ?_
      refine ⟨_, rfl, _, rfl, _, rfl, _, rfl, _, _, rfl, rfl, hd, pa, ca, dr, ps, rfl, HA1, hps1, hca1, fun H2 va a HA2 F2 ra oa => ?_⟩
      have hps2 : SqT K H2 pa (ps.map .str) := SqT.keep hps1 F2.fix
      have hca2 := F2.old _ _ hca1 (by simp [nch])
      refine ⟨_, rfl, _, rfl, _, rfl, _, rfl, _, rfl, _, _, rfl, rfl, hd, pa, ca, dr, ps, rfl, HA2, hps2, hca2, fun H3 vb b HA3 F3 rb ob => ⟨(by show 3 ≤ sizeLine; decide), fun t ht => ?_⟩⟩
      have S4 : Same H3 (upd H3 t (.tup [.str "same", va, vb])) := Same.new ht
      exact k _ _ (.l [.w "same", a, b]) (HA3.frm S4) (F1.trans (F2.trans (F3.trans (Frm.of_same S4)))) ⟨t, _, rfl, SqT.of upd_same, ⟨_, _, rfl, rfl, rep2 (Rep.keep (fun b o h hf => S4 _ _ (F3.fix _ _ h hf)) ra) (Rep.keep (fun b o h _ => S4 _ _ h) rb)⟩⟩ (.same oa ob)
    · refine iteN (decide_eq_false (fun z => by injection z with z; omega)) ⟨_, rfl, rfl, _, rfl, iteP (decide_eq_true (by rw [show kind = 5 by omega]; rfl)) ?_⟩
      refine ⟨_, rfl, _, rfl, _, rfl, _, rfl, _, _, rfl, rfl, hd, pa, ca, dr, ps, rfl, HA1, hps1, hca1, fun H2 va a HA2 F2 ra oa => ?_⟩
      have hps2 : SqT K H2 pa (ps.map .str) := SqT.keep hps1 F2.fix
      have hca2 := F2.old _ _ hca1 (by simp [nch])
      refine ⟨_, rfl, _, rfl, _, rfl, _, rfl, _, rfl, _, _, rfl, rfl, hd, pa, ca, dr, ps, rfl, HA2, hps2, hca2, fun H3 vb b HA3 F3 rb ob => ⟨(by show 3 ≤ sizeLine; decide), fun t ht => ?_⟩⟩
      have S4 : Same H3 (upd H3 t (.tup [.str "same", va, vb])) := Same.new ht
      exact k _ _ (.l [.w "same", a, b]) (HA3.frm S4) (F1.trans (F2.trans (F3.trans (Frm.of_same S4)))) ⟨t, _, rfl, SqT.of upd_same, ⟨_, _, rfl, rfl, rep2 (Rep.keep (fun b o h hf => S4 _ _ (F3.fix _ _ h hf)) ra) (Rep.keep (fun b o h _ => S4 _ _ h) rb)⟩⟩ (.same oa ob)
  refine ⟨_, rfl, rfl, _, rfl, iteN (decide_eq_false (fun z => by injection z with z; omega)) ⟨_, rfl, rfl, _, rfl, iteN (decide_eq_false (fun z => by injection z with z; omega)) ?_⟩⟩
  refine ⟨_, rfl, _, _, rfl, rfl, _, rfl, ?_⟩
  by_cases k8 : kind < 8
  · refine iteP (decide_eq_true (by omega)) ?_
    refine ⟨_, rfl, _, rfl, _, rfl, _, rfl, _, _, rfl, rfl, hd, pa, ca, dr, ps, rfl, HA1, hps1, hca1, fun H2 va a HA2 F2 ra oa => ?_⟩
    have hps2 : SqT K H2 pa (ps.map .str) := SqT.keep hps1 F2.fix
    have hca2 := F2.old _ _ hca1 (by simp [nch])
    refine ⟨_, rfl, _, rfl, _, rfl, _, rfl, _, rfl, _, _, rfl, rfl, hd, pa, ca, dr, ps, rfl, HA2, hps2, hca2, fun H3 vb b HA3 F3 rb ob => ⟨(by show 3 ≤ sizeLine; decide), fun t ht => ?_⟩⟩
    have S4 : Same H3 (upd H3 t (.tup [.str "join", va, vb])) := Same.new ht
    exact k _ _ (.l [.w "join", a, b]) (HA3.frm S4) (F1.trans (F2.trans (F3.trans (Frm.of_same S4)))) ⟨t, _, rfl, SqT.of upd_same, ⟨_, _, rfl, rfl, rep2 (Rep.keep (fun b o h hf => S4 _ _ (F3.fix _ _ h hf)) ra) (Rep.keep (fun b o h _ => S4 _ _ h) rb)⟩⟩ (.join oa ob)
  refine iteN (decide_eq_false (by omega)) ?_
  refine ⟨_, rfl, rfl, _, rfl, ?_⟩
  by_cases e8 : kind = 8
  · refine iteP (decide_eq_true (by rw [e8]; rfl)) ?_
    refine ⟨_, rfl, _, rfl, _, rfl, _, rfl, _, _, rfl, rfl, hd, pa, ca, dr, ps, rfl, HA1, hps1, hca1, fun H2 va a HA2 F2 ra oa => ⟨(by show 2 ≤ sizeLine; decide), fun t ht => ?_⟩⟩
    have S4 : Same H2 (upd H2 t (.tup [.str "word", va])) := Same.new ht
    exact k _ _ (.l [.w "word", a]) (HA2.frm S4) (F1.trans (F2.trans (Frm.of_same S4))) ⟨t, _, rfl, SqT.of upd_same, rep2 rfl (Rep.keep (fun b o h _ => S4 _ _ h) ra)⟩ (.word oa)
  refine iteN (decide_eq_false (fun z => by injection z with z; omega)) ?_
  have fin : ∀ (r : Nat) (z : Str), r < 2 → (["head", "tail"] : List Str)[r]? = some z → ∀ {a : PV}, Exp0 ps a → Exp1 ps (.l [.w z, a]) := fun r z hr hz a oa => by
    match r, hr, hz with
    | 0, _, hz => cases (show ("head" : Str) = z from Option.some.inj hz); exact .head oa
    | 1, _, hz => cases (show ("tail" : Str) = z from Option.some.inj hz); exact .tail oa
  have last : ∃ (r : Nat) (z : Str), r < 2 ∧ ((kind : Int) % 2) = (r : Int) ∧ (["head", "tail"] : List Str)[r]? = some z := by
    have h2 : kind % 2 < 2 := Nat.mod_lt _ (by decide)
    exact ⟨kind % 2, (["head", "tail"] : List Str)[kind % 2]'h2, h2, by omega, List.getElem?_eq_getElem h2⟩
  refine ⟨_, rfl, _, _, rfl, rfl, _, rfl, ?_⟩
  by_cases k11 : kind < 11
  · refine iteP (decide_eq_true (by omega)) ?_
    refine ⟨(by show 2 ≤ sizeLine; decide), fun l hl => ⟨_, rfl, _, _, rfl, rfl, lt2, ?_⟩⟩
    have S2 : Same H1 (upd H1 l (.lst [.str "head", .str "tail"])) := Same.new hl
    obtain ⟨r, z, hr2, er, hz⟩ := last
    dsimp only
    rw [er]
    refine ⟨l, _, (r : Int), .str z, rfl, rfl, SqL.of (xs := (["head", "tail"] : List Str).map V.str) upd_same, atI_of (by rw [List.getElem?_map, hz] <;> rfl), ?_⟩
    have hps2 : SqT K (upd H1 l (.lst [.str "head", .str "tail"])) pa (ps.map .str) := SqT.keep hps1 (fun b o h _ => S2 _ _ h)
    refine ⟨_, rfl, _, rfl, _, rfl, _, rfl, _, _, rfl, rfl, hd, pa, ca, dr, ps, rfl, (HA1.frm S2), hps2, (S2 _ _ hca1), fun H3 va a HA3 F3 ra oa => ⟨(by show 2 ≤ sizeLine; decide), fun t ht => ?_⟩⟩
    have S4 : Same H3 (upd H3 t (.tup [.str z, va])) := Same.new ht
    exact k _ _ (.l [.w z, a]) (HA3.frm S4) (F1.trans ((Frm.of_same S2).trans (F3.trans (Frm.of_same S4)))) ⟨t, _, rfl, SqT.of upd_same, rep2 rfl (Rep.keep (fun b o h _ => S4 _ _ h) ra)⟩ (fin r z hr2 hz oa)
  · refine iteN (decide_eq_false (by omega)) ⟨_, rfl, ca, _, rfl, .inl (SqL.of hca1), rfl, _, rfl, iteT ?_⟩
    refine ⟨(by show 2 ≤ sizeLine; decide), fun l hl => ⟨_, rfl, _, _, rfl, rfl, lt2, ?_⟩⟩
    have S2 : Same H1 (upd H1 l (.lst [.str "head", .str "tail"])) := Same.new hl
    obtain ⟨r, z, hr2, er, hz⟩ := last
    dsimp only
    rw [er]
    refine ⟨l, _, (r : Int), .str z, rfl, rfl, SqL.of (xs := (["head", "tail"] : List Str).map V.str) upd_same, atI_of (by rw [List.getElem?_map, hz] <;> rfl), ?_⟩
    have hps2 : SqT K (upd H1 l (.lst [.str "head", .str "tail"])) pa (ps.map .str) := SqT.keep hps1 (fun b o h _ => S2 _ _ h)
    refine ⟨_, rfl, _, rfl, _, rfl, _, rfl, _, _, rfl, rfl, hd, pa, ca, dr, ps, rfl, (HA1.frm S2), hps2, (S2 _ _ hca1), fun H3 va a HA3 F3 ra oa => ⟨(by show 2 ≤ sizeLine; decide), fun t ht => ?_⟩⟩
    have S4 : Same H3 (upd H3 t (.tup [.str z, va])) := Same.new ht
    exact k _ _ (.l [.w z, a]) (HA3.frm S4) (F1.trans ((Frm.of_same S2).trans (F3.trans (Frm.of_same S4)))) ⟨t, _, rfl, SqT.of upd_same, rep2 rfl (Rep.keep (fun b o h _ => S4 _ _ h) ra)⟩ (fin r z hr2 hz oa)
end
end Og
/-! == of values; _law_do. -/
namespace Og
open PySem PySem.Spec L2
mutual
def pyd : PV → PyData
  | .w x => .str x
  | .l xs => .tuple (pyds xs)
def pyds : List PV → List PyData
  | [] => []
  | x :: r => pyd x :: pyds r
end
mutual
theorem pyd_dp {K : PySem.W.Frag} {H : Hp} : ∀ {x : PV} {v : V}, Rep K H x v → Dp K H v (pyd x)
  | .w x, v, h => by cases (show v = .str x from h); exact .str x
  | .l xs, v, h => by
    obtain ⟨a, vs, rfl, h1, h2⟩ := h
    exact .tup h1 (pyds_dp h2)
theorem pyds_dp {K : PySem.W.Frag} {H : Hp} : ∀ {xs : List PV} {vs : List V}, Reps K H xs vs → DpAll K H vs (pyds xs)
  | [], vs, h => by cases (show vs = [] from h); exact .nil
  | x :: r, vs, h => by
    obtain ⟨v, vr, rfl, h1, h2⟩ := h
    exact .cons (pyd_dp h1) (pyds_dp h2)
end
mutual
theorem pyd_depth : ∀ x : PV, (pyd x).depth = pdp x
  | .w x => rfl
  | .l xs => by simp only [pyd, PyData.depth, pdp, pyds_depth xs]; omega
theorem pyds_depth : ∀ xs : List PV, PyData.depthAll (pyds xs) = pdps xs
  | [] => rfl
  | x :: r => by simp only [pyds, PyData.depthAll, pdps, pyd_depth x, pyds_depth r]
end
mutual
theorem pyd_lay : ∀ x : PV, (pyd x).canLay0 = pok PyData.strOk x
  | .w x => by simp only [pyd, PyData.canLay0, pok]
  | .l xs => by simp only [pyd, PyData.canLay0, pok, pyds_lay xs]
theorem pyds_lay : ∀ xs : List PV, PyData.canLayAll0 (pyds xs) = poks PyData.strOk xs
  | [] => by simp only [pyds, PyData.canLayAll0, poks]
  | x :: r => by simp only [pyds, PyData.canLayAll0, poks, pyd_lay x, pyds_lay r]
end
mutual
theorem pyd_eqv : ∀ x y : PV, PyData.eqv (pyd x) (pyd y) = decide (x = y)
  | .w x, .w y => by
    simp only [pyd, PyData.eqv, PV.w.injEq]
    by_cases h : x = y
    · subst h; simp
    · rw [decide_eq_false h, beq_eq_false_iff_ne.mpr h]
  | .w x, .l ys => by simp [pyd, PyData.eqv]
  | .l xs, .w y => by simp [pyd, PyData.eqv]
  | .l xs, .l ys => by
    simp only [pyd, PyData.eqv, pyds_eqv xs ys, PV.l.injEq]
theorem pyds_eqv : ∀ xs ys : List PV, PyData.eqvAll (pyds xs) (pyds ys) = decide (xs = ys)
  | [], [] => by simp [pyds, PyData.eqvAll]
  | [], _ :: _ => by simp [pyds, PyData.eqvAll]
  | _ :: _, [] => by simp [pyds, PyData.eqvAll]
  | x :: r, y :: s => by
    simp only [pyds, PyData.eqvAll, pyd_eqv x y, pyds_eqv r s, List.cons.injEq]
    by_cases h : x = y <;> simp [h]
end
/-- a value that == may look at -/
structure VOk (x : PV) : Prop where
  dp : pdp x ≤ 60
  st : pok PyData.strOk x = true
theorem VOk.shaped {x : PV} (h : VOk x) : SeqAt.shaped (pyd x) = true := by
  unfold SeqAt.shaped
  rw [pyd_lay, h.st, pyd_depth, Bool.true_and]
  exact decide_eq_true (by have := h.dp; omega)
theorem eq_read {K : PySem.W.Frag} {H : Hp} {x y : PV} {u v : V} (a : Rep K H x u) (b : Rep K H y v) (ha : VOk x) (hb : VOk y) {Q : VK} (q : Q (.bl (decide (x = y))) H) : rEqD K u v H Q :=
  ⟨_, _, pyd_dp a, pyd_dp b, ha.shaped, hb.shaped, by rw [pyd_eqv]; exact q⟩
theorem ne_read {K : PySem.W.Frag} {H : Hp} {x y : PV} {u v : V} (a : Rep K H x u) (b : Rep K H y v) (ha : VOk x) (hb : VOk y) {Q : VK} (q : Q (.bl (!decide (x = y))) H) : rNeD K u v H Q :=
  ⟨_, _, pyd_dp a, pyd_dp b, ha.shaped, hb.shaped, by rw [pyd_eqv]; exact q⟩
inductive DoV : Str → List PV → List PV → PV → Prop
  | word {fs a} : DoV "word" (fs ++ [a]) fs (wordV a)
  | head {fs a} : DoV "head" (fs ++ [a]) fs (headV a)
  | tail {fs a} : DoV "tail" (fs ++ [a]) fs (tailV a)
  | same {fs a b} (ha : VOk a) (hb : VOk b) : DoV "same" (fs ++ [a] ++ [b]) fs (sameV a b)
  | join {fs a b} (h : psz b ≤ 1000000) : DoV "join" (fs ++ [a] ++ [b]) fs (joinV a b)
section
variable {P : Program} {w : World} {K : PySem.W.Frag} {mg : Str → Option Value} {base : Heap}
abbrev sLDo : Stmt := top 35
abbrev nLDo : List Str := ["_law_word", "_law_found", "_law_last", "_law_first"]
def spLDo (K : PySem.W.Frag) : Sp := fun vs H Q _ => ∃ (k : Str) (lf : Addr) (us : List V) (fs fs' : List PV) (r : PV), vs = [.str k, .ref lf] ∧ H lf = some (.lst us) ∧ Reps K H fs us ∧ DoV k fs fs' r ∧
  ∀ (H' : Hp) (v : V) (us' : List V), Frm [lf] H H' → H' lf = some (.lst us') → Reps K H' fs' us' → Rep K H' r v → Q v H'
theorem scLDo : FnScope nLDo ["_law_word", "_law_found"] (defScope sLDo) := ⟨rfl, rfl, rfl, by decide +kernel, rfl, by decide +kernel, by decide +kernel⟩
/-- a pop off a list of values -/
theorem popV {H : Hp} {lf : Addr} {us : List V} {fs : List PV} {a : PV} (h : H lf = some (.lst us)) (hR : Reps K H (fs ++ [a]) us) {Q : VK}
    (q : ∀ (H' : Hp) (us' : List V) (u : V), Frm [lf] H H' → H' lf = some (.lst us') → Reps K H' fs us' → Rep K H' a u → Q u H') : rPop (.ref lf) [] H Q := by
  obtain ⟨us', u, rfl, h1, h2⟩ := reps_snoc hR
  refine ⟨lf, _, _, rfl, rfl, h, (popR _ _).1, ?_⟩
  rw [(popR _ _).2]
  have F : Frm [lf] H (upd H lf (.lst us')) := Frm.upd (by simp) h (fun z => z)
  exact q _ us' u F upd_same (Reps.keep F.fix h1) (Rep.keep F.fix h2)
theorem ok_ldo (B : Blt mg) (g : GDef K mg "_law_do" sLDo []) : C8.Cal P w K mg base 1 "_law_do" (spLDo K) [] := by
  refine cal_of g scLDo (fun _ _ _ _ _ _ us hl => match us, hl with | [_, _], _ => rfl) (fun vs H Q E h => ?_) (fun f cdv A outer s H vs Q E hr h => ?_)
  · obtain ⟨k, lf, us, fs, fs', r, rfl, _⟩ := h; rfl
  obtain ⟨kw, lf, us, fs, fs', r, rfl, hlf, hR, hD, k⟩ := h
  have nd := scLDo.nd
  refine ⟨_, (pss_cons (ps_set (i := 2) nd rfl (.inl rfl) (pe_bm0 PySem.F.plainAttrs_list PySem.F.slot_list_pop PySem.F.type_list_pop mt_pop (pv 1)))
    (pss_cons (ps_if (pt_cmpR op_eq (pv 0) pe_str (nomark _)) (pss_one (ps_ret (pe_ix ix_list (pe_lst (pa_cons pe_str (pa_cons (pe_tup pa_nil) pa_nil))) (pe_callTy call_int1 (by rfl) B.int (by decide +kernel) (pa_cons (pe_callB call_isi (by rfl) B.isinstance (by decide +kernel) (pa_cons (pv 2) (pa_cons (pe_bltn (v := .ty "tuple") (by rfl) B.tuple (by decide +kernel) rfl) pa_nil))) pa_nil)) (fun _ _ => rfl)))) pss_nil)
    (pss_cons (ps_if (pt_cmpR op_eq (pv 0) pe_str (nomark _)) (pss_cons (ps_if (PW.pt (pw_and (pt_val (pe_callB call_isi (by rfl) B.isinstance (by decide +kernel) (pa_cons (pv 2) (pa_cons (pe_bltn (v := .ty "tuple") (by rfl) B.tuple (by decide +kernel) rfl) pa_nil)))) (pw_and1 (pt_cmpR op_gt (pe_callB call_len_seq (by rfl) B.len boot_len (pa_cons (pv 2) pa_nil)) pe_int (nomark _))))) (pss_one (ps_ret (pe_ix ix_tup (pv 2) pe_int (fun _ _ => rfl)))) pss_nil)
    (pss_one (ps_ret (pe_tup pa_nil)))) pss_nil)
    (pss_cons (ps_if (pt_cmpR op_eq (pv 0) pe_str (nomark _)) (pss_cons (ps_if (pt_val (pe_callB call_isi (by rfl) B.isinstance (by decide +kernel) (pa_cons (pv 2) (pa_cons (pe_bltn (v := .ty "tuple") (by rfl) B.tuple (by decide +kernel) rfl) pa_nil)))) (pss_one (ps_ret (pe_slice sl_tupA (pv 2) (po_some pe_int) po_none))) pss_nil)
    (pss_one (ps_ret (pe_tup pa_nil)))) pss_nil)
    (pss_cons (ps_set (i := 3) nd rfl (.inl rfl) (pe_bm0 PySem.F.plainAttrs_list PySem.F.slot_list_pop PySem.F.type_list_pop mt_pop (pv 1)))
    (pss_cons (ps_if (pt_cmpR op_eq (pv 0) pe_str (nomark _)) (pss_one (ps_ret (pe_ix ix_list (pe_lst (pa_cons (pe_tup pa_nil) (pa_cons pe_str pa_nil))) (pe_callTy call_int1 (by rfl) B.int (by decide +kernel) (pa_cons (pe_cmpR (op_eqD (hr.units)) (pv 3) (pv 2) (nomark _)) pa_nil)) (fun _ _ => rfl)))) pss_nil)
    (pss_cons (ps_if (pt_val (pe_callB call_isi (by rfl) B.isinstance (by decide +kernel) (pa_cons (pv 2) (pa_cons (pe_bltn (v := .ty "tuple") (by rfl) B.tuple (by decide +kernel) rfl) pa_nil)))) (pss_one (ps_ret (pe_op op_catA (pe_tup (pa_cons (pv 3) pa_nil)) (pv 2)))) pss_nil)
    (pss_one (ps_ret (pe_tup (pa_cons (pv 3) pa_nil))))))))))), ?_⟩
  have nilR : ∀ (H1 : Hp) (t : Addr), Rep K (upd H1 t (.tup [])) nilV (.ref t) := fun H1 t => ⟨t, [], rfl, SqT.of upd_same, rfl⟩
  cases hD with
  | @word _ a =>
    refine ⟨_, rfl, .inl ⟨rfl, _, SqL.of hlf⟩, popV hlf hR fun H1 us1 u F1 hl1 hR1 ha => ?_⟩
    refine ⟨_, rfl, rfl, _, rfl, iteT ?_⟩
    refine ⟨Nat.zero_le _, fun t ht => ⟨(by show 2 ≤ sizeLine; decide), fun l hl => ?_⟩⟩
    have S2 : Same H1 (upd H1 t (.tup [])) := Same.new ht
    have S3 : Same (upd H1 t (.tup [])) (upd (upd H1 t (.tup [])) l (.lst [.str "yes", .ref t])) := Same.new hl
    have S := S2.trans S3
    have hl3 : upd (upd H1 t (.tup [])) l (.lst [.str "yes", .ref t]) l = some (.lst [.str "yes", .ref t]) := upd_same
    have hn3 : Rep K (upd (upd H1 t (.tup [])) l (.lst [.str "yes", .ref t])) nilV (.ref t) := Rep.keep (fun b o h _ => S3 _ _ h) (nilR H1 t)
    generalize upd (upd H1 t (.tup [])) l (.lst [.str "yes", .ref t]) = H3 at S3 S hl3 hn3 ⊢
    have ha3 : Rep K H3 a u := Rep.keep (fun b o h _ => S _ _ h) ha
    obtain ⟨tt, hk1, hk2⟩ := isi_datT ha3
    refine ⟨_, rfl, _, _, tt, _, _, rfl, .ty _, hk1, hk2, .inr ⟨_, rfl, ?_⟩⟩
    have kk : ∀ v, Rep K H3 (wordV a) v → Q v H3 := fun v hv => k H3 v us1 (F1.trans (Frm.of_same S)) (S _ _ hl1) (Reps.keep (fun b o h _ => S _ _ h) hR1) hv
    cases a with
    | w z => exact ⟨l, _, 0, _, rfl, rfl, SqL.of hl3, rfl, kk _ rfl⟩
    | l zs => exact ⟨l, _, 1, _, rfl, rfl, SqL.of hl3, rfl, kk _ hn3⟩
  | @head _ a =>
    refine ⟨_, rfl, .inl ⟨rfl, _, SqL.of hlf⟩, popV hlf hR fun H1 us1 u F1 hl1 hR1 ha => ?_⟩
    refine ⟨_, rfl, rfl, _, rfl, iteF ⟨_, rfl, rfl, _, rfl, iteT ?_⟩⟩
    obtain ⟨tt, hk1, hk2⟩ := isi_datT ha
    refine ⟨_, rfl, _, _, tt, _, _, rfl, .ty _, hk1, hk2, _, rfl, ?_⟩
    cases a with
    | w z =>
      refine iteF (iteF ⟨Nat.zero_le _, fun t ht => ?_⟩)
      have S2 : Same H1 (upd H1 t (.tup [])) := Same.new ht
      exact k _ _ us1 (F1.trans (Frm.of_same S2)) (S2 _ _ hl1) (Reps.keep (fun b o h _ => S2 _ _ h) hR1) (nilR H1 t)
    | l zs =>
      obtain ⟨b, vs, rfl, hb, hbs⟩ := ha
      refine iteT ⟨_, rfl, b, _, rfl, .inr hb, _, _, rfl, rfl, _, rfl, ?_⟩
      cases zs with
      | nil =>
        cases (show vs = [] from hbs)
        refine iteF ⟨Nat.zero_le _, fun t ht => ?_⟩
        have S2 : Same H1 (upd H1 t (.tup [])) := Same.new ht
        exact k _ _ us1 (F1.trans (Frm.of_same S2)) (S2 _ _ hl1) (Reps.keep (fun b o h _ => S2 _ _ h) hR1) (nilR H1 t)
      | cons y zs =>
        obtain ⟨v0, r0, rfl, h0, _⟩ := hbs
        refine iteP (decide_eq_true (by rw [List.length_cons]; omega)) ⟨_, rfl, b, _, 0, _, rfl, rfl, hb, atI_of (i := 0) rfl, ?_⟩
        exact k H1 v0 us1 F1 hl1 hR1 h0
  | @tail _ a =>
    refine ⟨_, rfl, .inl ⟨rfl, _, SqL.of hlf⟩, popV hlf hR fun H1 us1 u F1 hl1 hR1 ha => ?_⟩
    refine ⟨_, rfl, rfl, _, rfl, iteF ⟨_, rfl, rfl, _, rfl, iteF ⟨_, rfl, rfl, _, rfl, iteT ?_⟩⟩⟩
    obtain ⟨tt, hk1, hk2⟩ := isi_datT ha
    refine ⟨_, rfl, _, _, tt, _, _, rfl, .ty _, hk1, hk2, _, rfl, ?_⟩
    cases a with
    | w z =>
      refine iteF ⟨Nat.zero_le _, fun t ht => ?_⟩
      have S2 : Same H1 (upd H1 t (.tup [])) := Same.new ht
      exact k _ _ us1 (F1.trans (Frm.of_same S2)) (S2 _ _ hl1) (Reps.keep (fun b o h _ => S2 _ _ h) hR1) (nilR H1 t)
    | l zs =>
      obtain ⟨b, vs, rfl, hb, hbs⟩ := ha
      refine iteT ⟨_, rfl, _, rfl, b, _, rfl, hb, fun hw => ?_, fun hw t ht => ?_⟩
      · cases zs with
        | nil => exact k H1 (.ref b) us1 F1 hl1 hR1 ⟨b, vs, rfl, hb, hbs⟩
        | cons y zs =>
          obtain ⟨v0, r0, rfl, h0, h1⟩ := hbs
          obtain ⟨h2, _⟩ := hw
          have := HT.sIx_nat (v0 :: r0).length 0 1
          rw [show (some 1 : Option Int) = some ((1 : Nat) : Int) from rfl, this, List.length_cons] at h2
          omega
      · cases zs with
        | nil =>
          cases (show vs = [] from hbs)
          exact absurd ⟨rfl, rfl⟩ hw
        | cons y zs =>
          obtain ⟨v0, r0, rfl, h0, h1⟩ := hbs
          rw [cutV_tail]
          have S2 : Same H1 (upd H1 t (.tup r0)) := Same.new ht
          exact k _ _ us1 (F1.trans (Frm.of_same S2)) (S2 _ _ hl1) (Reps.keep (fun b o h _ => S2 _ _ h) hR1) ⟨t, r0, rfl, SqT.of upd_same, Reps.keep (fun b o h _ => S2 _ _ h) h1⟩
  | @same _ a b oa ob =>
    refine ⟨_, rfl, .inl ⟨rfl, _, SqL.of hlf⟩, popV hlf hR fun H1 us1 u F1 hl1 hR1 hb => ?_⟩
    refine ⟨_, rfl, rfl, _, rfl, iteF ⟨_, rfl, rfl, _, rfl, iteF ⟨_, rfl, rfl, _, rfl, iteF ?_⟩⟩⟩
    refine ⟨_, rfl, .inl ⟨rfl, _, SqL.of hl1⟩, popV hl1 hR1 fun H2 us2 u2 F2 hl2 hR2 ha => ?_⟩
    have hb2 : Rep K H2 b u := Rep.keep F2.fix hb
    refine ⟨_, rfl, rfl, _, rfl, iteT ?_⟩
    refine ⟨Nat.zero_le _, fun t ht => ⟨(by show 2 ≤ sizeLine; decide), fun l hl => ?_⟩⟩
    have S2 : Same H2 (upd H2 t (.tup [])) := Same.new ht
    have S3 : Same (upd H2 t (.tup [])) (upd (upd H2 t (.tup [])) l (.lst [.ref t, .str "yes"])) := Same.new hl
    have S := S2.trans S3
    have hl3 : upd (upd H2 t (.tup [])) l (.lst [.ref t, .str "yes"]) l = some (.lst [.ref t, .str "yes"]) := upd_same
    have hn3 : Rep K (upd (upd H2 t (.tup [])) l (.lst [.ref t, .str "yes"])) nilV (.ref t) := Rep.keep (fun b o h _ => S3 _ _ h) (nilR H2 t)
    generalize upd (upd H2 t (.tup [])) l (.lst [.ref t, .str "yes"]) = H3 at S3 S hl3 hn3 ⊢
    have kk : ∀ v, Rep K H3 (sameV a b) v → Q v H3 := fun v hv => k H3 v us2 (F1.trans (F2.trans (Frm.of_same S))) (S _ _ hl2) (Reps.keep (fun b o h _ => S _ _ h) hR2) hv
    refine ⟨_, rfl, _, rfl, eq_read (Rep.keep (fun b o h _ => S _ _ h) ha) (Rep.keep (fun b o h _ => S _ _ h) hb2) oa ob (.inr ⟨_, rfl, ?_⟩)⟩
    unfold sameV at kk
    by_cases e : a = b
    · rw [if_pos e] at kk
      rw [decide_eq_true e]
      exact ⟨l, _, 1, _, rfl, rfl, SqL.of hl3, rfl, kk _ rfl⟩
    · rw [if_neg e] at kk
      rw [decide_eq_false e]
      exact ⟨l, _, 0, _, rfl, rfl, SqL.of hl3, rfl, kk _ hn3⟩
  | @join _ a b hsz =>
    refine ⟨_, rfl, .inl ⟨rfl, _, SqL.of hlf⟩, popV hlf hR fun H1 us1 u F1 hl1 hR1 hb => ?_⟩
    refine ⟨_, rfl, rfl, _, rfl, iteF ⟨_, rfl, rfl, _, rfl, iteF ⟨_, rfl, rfl, _, rfl, iteF ?_⟩⟩⟩
    refine ⟨_, rfl, .inl ⟨rfl, _, SqL.of hl1⟩, popV hl1 hR1 fun H2 us2 u2 F2 hl2 hR2 ha => ?_⟩
    have hb2 : Rep K H2 b u := Rep.keep F2.fix hb
    refine ⟨_, rfl, rfl, _, rfl, iteF ?_⟩
    obtain ⟨tt, hk1, hk2⟩ := isi_datT hb2
    refine ⟨_, rfl, _, _, tt, _, _, rfl, .ty _, hk1, hk2, _, rfl, ?_⟩
    cases b with
    | w z =>
      refine iteF ⟨_, rfl, (by show 1 ≤ sizeLine; decide), fun t ht => ?_⟩
      have S2 : Same H2 (upd H2 t (.tup [u2])) := Same.new ht
      exact k _ _ us2 (F1.trans (F2.trans (Frm.of_same S2))) (S2 _ _ hl2) (Reps.keep (fun b o h _ => S2 _ _ h) hR2) ⟨t, _, rfl, SqT.of upd_same, _, _, rfl, Rep.keep (fun b o h _ => S2 _ _ h) ha, rfl⟩
    | l zs =>
      refine iteT ⟨_, rfl, (by show 1 ≤ sizeLine; decide), fun t ht => ?_⟩
      have S2 : Same H2 (upd H2 t (.tup [u2])) := Same.new ht
      have ht3 : upd H2 t (.tup [u2]) t = some (.tup [u2]) := upd_same
      generalize upd H2 t (.tup [u2]) = H3 at S2 ht3 ⊢
      have hb3 : Rep K H3 (.l zs) u := Rep.keep (fun b o h _ => S2 _ _ h) hb2
      have ha3 : Rep K H3 a u2 := Rep.keep (fun b o h _ => S2 _ _ h) ha
      obtain ⟨b', vs, rfl, hb', hbs⟩ := hb3
      have hvl : vs.length ≤ 1000000 := by
        rw [hbs.length]
        have := len_pszs zs
        simp only [psz] at hsz
        omega
      have kk : ∀ H4 v, Same H3 H4 → Rep K H4 (.l (a :: zs)) v → Q v H4 := fun H4 v S hv => k H4 v us2 (F1.trans (F2.trans (Frm.of_same (S2.trans S)))) (S _ _ (S2 _ _ hl2)) (Reps.keep (fun b o h _ => S _ _ (S2 _ _ h)) hR2) hv
      refine ⟨_, rfl, t, b', _, _, rfl, rfl, SqT.of ht3, hb', (by show 1 + vs.length ≤ _; exact Nat.le_of_lt (small7 (by omega))), (fun z => by cases z), fun _ hv => ?_, fun _ hv p hp => ?_⟩
      · cases zs with
        | nil => exact kk _ _ (fun _ _ h => h) ⟨t, _, rfl, SqT.of ht3, _, _, rfl, ha3, rfl⟩
        | cons y zs =>
          obtain ⟨_, _, e, _⟩ := hbs
          rw [hv] at e; cases e
      · have S4 : Same H3 (upd H3 p (.tup ([u2] ++ vs))) := Same.new hp
        exact kk _ _ S4 ⟨p, _, rfl, SqT.of upd_same, _, _, rfl, Rep.keep (fun b o h _ => S4 _ _ h) ha3, Reps.keep (fun b o h _ => S4 _ _ h) hbs⟩
end
end Og
/-! _law_run. -/
namespace Og
open PySem PySem.Spec L2
inductive LTsk where
  | ev (x : PV)
  | iff (a b : PV)
  | doo (k : Str)
structure LM where
  fd : List PV
  td : List LTsk
  n : Nat
inductive LStep (ps : List Str) (xs : List PV) (limit : Nat) : LM → LM → Prop
  | var {fd x v r n} (h : look ps xs x = some v) (hn : n < limit) : LStep ps xs limit ⟨fd, .ev (.w x) :: r, n⟩ ⟨fd ++ [v], r, n + 1⟩
  | quo {fd v r n} (hn : n < limit) : LStep ps xs limit ⟨fd, .ev (.l [.w "quote", v]) :: r, n⟩ ⟨fd ++ [v], r, n + 1⟩
  | iff {fd t a b r n} (hn : n < limit) : LStep ps xs limit ⟨fd, .ev (.l [.w "if", t, a, b]) :: r, n⟩ ⟨fd, .ev t :: .iff a b :: r, n + 1⟩
  | prim {fd k es r n} (hk : k ∈ plainW) (h5 : es.length ≤ 5) (hn : n < limit) : LStep ps xs limit ⟨fd, .ev (.l (.w k :: es)) :: r, n⟩ ⟨fd, es.map .ev ++ .doo k :: r, n + 1⟩
  | br {fd c a b r n} (hc : VOk c) : LStep ps xs limit ⟨fd ++ [c], .iff a b :: r, n⟩ ⟨fd, .ev (if c = nilV then b else a) :: r, n⟩
  | doo {fd k fd' v r n} (h : DoV k fd fd' v) : LStep ps xs limit ⟨fd, .doo k :: r, n⟩ ⟨fd' ++ [v], r, n⟩
def LChain (ps : List Str) (xs : List PV) (limit : Nat) : Nat → LM → LM → Prop
  | 0, A, B => A = B
  | m + 1, A, B => ∃ C, LStep ps xs limit A C ∧ LChain ps xs limit m C B
structure LFits (A : LM) (m : Nat) : Prop where
  fd : A.fd.length + m ≤ 10000
  td : A.td.length + 6 * m ≤ 10000
theorem LStep.fits {ps : List Str} {xs : List PV} {limit m : Nat} {A C : LM} (h : LStep ps xs limit A C) (f : LFits A (m + 1)) : LFits C m := by
  obtain ⟨h1, h2⟩ := f
  cases h with
  | doo h =>
    cases h <;> simp only [List.length_append, List.length_cons, List.length_map, List.length_nil] at h1 h2 <;> constructor <;> simp only [List.length_append, List.length_cons, List.length_map, List.length_nil] <;> omega
  | _ =>
    simp only [List.length_append, List.length_cons, List.length_map, List.length_nil] at h1 h2
    constructor <;> simp only [List.length_append, List.length_cons, List.length_map, List.length_nil] <;> omega
def TskL (K : PySem.W.Frag) (H : Hp) (dn : Addr) : LTsk → V → Prop
  | .ev x, v => ∃ t u, v = .ref t ∧ H t = some (.tup [.str "eval", u, .ref dn]) ∧ Rep K H x u
  | .iff a b, v => ∃ t u1 u2, v = .ref t ∧ H t = some (.tup [.str "if", u1, u2, .ref dn]) ∧ Rep K H a u1 ∧ Rep K H b u2
  | .doo k, v => ∃ t, v = .ref t ∧ H t = some (.tup [.str "do", .str k])
theorem TskL.keep {K : PySem.W.Frag} {H H' : Hp} {dn : Addr} (f : ∀ b o, H b = some o → Fix o → H' b = some o) : ∀ {t : LTsk} {v : V}, TskL K H dn t v → TskL K H' dn t v
  | .ev _, _, ⟨t, u, e, h1, h2⟩ => ⟨t, u, e, f _ _ h1 trivial, Rep.keep f h2⟩
  | .iff _ _, _, ⟨t, u1, u2, e, h1, h2, h3⟩ => ⟨t, u1, u2, e, f _ _ h1 trivial, Rep.keep f h2, Rep.keep f h3⟩
  | .doo _, _, ⟨t, e, h1⟩ => ⟨t, e, f _ _ h1 trivial⟩
structure LAt (K : PySem.W.Frag) (ps : List Str) (xs : List PV) (H : Hp) (lt lf dn : Addr) (A : LM) : Prop where
  td : ∃ ts, H lt = some (.lst ts) ∧ Paired (TskL K H dn) A.td.reverse ts
  fd : ∃ us, H lf = some (.lst us) ∧ Reps K H A.fd us
  env : ∃ kvs, H dn = some (.dK kvs) ∧ ∀ x v, look ps xs x = some v → ∃ u, valV kvs (Sum.inr x) = some u ∧ Rep K H v u
  ne : lt ≠ lf
section
variable {K : PySem.W.Frag} {ps : List Str} {xs : List PV} {H H' : Hp} {lt lf dn : Addr} {A : LM}
theorem LAt.envK (L : LAt K ps xs H lt lf dn A) {S : List Addr} (F : Frm S H H') (hd : dn ∉ S) : ∃ kvs, H' dn = some (.dK kvs) ∧ ∀ x v, look ps xs x = some v → ∃ u, valV kvs (Sum.inr x) = some u ∧ Rep K H' v u := by
  obtain ⟨kvs, h1, h2⟩ := L.env
  exact ⟨kvs, F.old _ _ h1 hd, fun x v e => by
    obtain ⟨u, a, b⟩ := h2 x v e
    exact ⟨u, a, Rep.keep F.fix b⟩⟩
theorem LAt.dnot (L : LAt K ps xs H lt lf dn A) : dn ≠ lt ∧ dn ≠ lf := by
  obtain ⟨kvs, h1, _⟩ := L.env
  obtain ⟨ts, h2, _⟩ := L.td
  obtain ⟨us, h3, _⟩ := L.fd
  exact ⟨ne_of h1 h2 (by intro q; cases q), ne_of h1 h3 (by intro q; cases q)⟩
theorem LAt.same (L : LAt K ps xs H lt lf dn A) (S : Same H H') : LAt K ps xs H' lt lf dn A := by
  obtain ⟨ts, h2, h3⟩ := L.td
  obtain ⟨us, h4, h5⟩ := L.fd
  exact ⟨⟨ts, S _ _ h2, paired_mono (fun _ _ h => TskL.keep (fun b o h _ => S _ _ h) h) h3⟩, ⟨us, S _ _ h4, Reps.keep (fun b o h _ => S _ _ h) h5⟩, L.envK (Frm.of_same (S := []) S) (by simp), L.ne⟩
theorem LAt.setF (L : LAt K ps xs H lt lf dn A) (F : Frm [lf] H H') {fd' : List PV} {us' : List V} (h : H' lf = some (.lst us')) (hR : Reps K H' fd' us') : LAt K ps xs H' lt lf dn { A with fd := fd' } := by
  obtain ⟨ts, h2, h3⟩ := L.td
  exact ⟨⟨ts, F.old _ _ h2 (by simp [L.ne]), paired_mono (fun _ _ h => TskL.keep F.fix h) h3⟩, ⟨us', h, hR⟩, L.envK F (by simp [L.dnot.2]), L.ne⟩
theorem LAt.setT (L : LAt K ps xs H lt lf dn A) (F : Frm [lt] H H') {td' : List LTsk} {ts' : List V} (h : H' lt = some (.lst ts')) (hP : Paired (TskL K H' dn) td'.reverse ts') : LAt K ps xs H' lt lf dn { A with td := td' } := by
  obtain ⟨us, h4, h5⟩ := L.fd
  exact ⟨⟨ts', h, hP⟩, ⟨us, F.old _ _ h4 (by simp [L.ne.symm]), Reps.keep F.fix h5⟩, L.envK F (by simp [L.dnot.1]), L.ne⟩
theorem LAt.appF (L : LAt K ps xs H lt lf dn A) (hl : A.fd.length ≤ 10000) {x : PV} {u : V} (hx : Rep K H x u) {Q : VK} (q : ∀ H2, LAt K ps xs H2 lt lf dn { A with fd := A.fd ++ [x] } → Frm [lt, lf] H H2 → Q .non H2) : rAppend (.ref lf) [u] H Q := by
  obtain ⟨us, h4, h5⟩ := L.fd
  have F : Frm [lf] H (upd H lf (.lst (us ++ [u]))) := Frm.upd (by simp) h4 (fun z => z)
  exact ⟨lf, _, _, rfl, rfl, h4, small7 (by rw [h5.length]; omega), q _ (L.setF F upd_same ((Reps.keep F.fix h5).append ⟨_, _, rfl, Rep.keep F.fix hx, rfl⟩)) (F.mono (by simp))⟩
theorem LAt.popF (L : LAt K ps xs H lt lf dn A) {fd : List PV} {x : PV} (e : A.fd = fd ++ [x]) {Q : VK} (q : ∀ H2 u, Rep K H2 x u → LAt K ps xs H2 lt lf dn { A with fd := fd } → Frm [lt, lf] H H2 → Q u H2) : rPop (.ref lf) [] H Q := by
  obtain ⟨us, h4, h5⟩ := L.fd
  rw [e] at h5
  exact popV h4 h5 fun H' us' u F h1 h2 h3 => q H' u h3 (L.setF F h1 h2) (F.mono (by simp))
theorem LAt.appT (L : LAt K ps xs H lt lf dn A) (hl : A.td.length ≤ 10000) {t : LTsk} {v : V} (h : TskL K H dn t v) {Q : VK} (q : ∀ H2, LAt K ps xs H2 lt lf dn { A with td := t :: A.td } → Frm [lt, lf] H H2 → Q .non H2) : rAppend (.ref lt) [v] H Q := by
  obtain ⟨ts, h2, h3⟩ := L.td
  have F : Frm [lt] H (upd H lt (.lst (ts ++ [v]))) := Frm.upd (by simp) h2 (fun z => z)
  refine ⟨lt, _, _, rfl, rfl, h2, small7 (by have := h3.length; rw [List.length_reverse] at this; omega), q _ (L.setT F upd_same ?_) (F.mono (by simp))⟩
  rw [List.reverse_cons]
  exact paired_app (paired_mono (fun _ _ h => TskL.keep F.fix h) h3) (.cons (TskL.keep F.fix h) .nil)
theorem LAt.pushT (L : LAt K ps xs H lt lf dn A) (hl : A.td.length ≤ 10000) {t : LTsk} {zs : List V} {p : Addr} (hp : H p = none) (h : TskL K (upd H p (.tup zs)) dn t (.ref p)) {Q : VK}
    (q : ∀ H2, LAt K ps xs H2 lt lf dn { A with td := t :: A.td } → Frm [lt, lf] H H2 → Q .non H2) : rAppend (.ref lt) [.ref p] (upd H p (.tup zs)) Q :=
  (L.same (Same.new hp)).appT hl h fun H2 L2 F2 => q H2 L2 ((Frm.of_same (Same.new hp)).trans F2)
theorem paired_snoc {α β : Type} {R : α → β → Prop} {l : List α} {x : α} {m : List β} (h : Paired R (l ++ [x]) m) : ∃ m' y, m = m' ++ [y] ∧ Paired R l m' ∧ R x y := by
  induction l generalizing m with
  | nil => cases h with | cons h t => cases t; exact ⟨[], _, rfl, .nil, h⟩
  | cons a l ih => cases h with
    | cons h t =>
      obtain ⟨m', y, rfl, h1, h2⟩ := ih t
      exact ⟨_ :: m', y, rfl, .cons h h1, h2⟩
theorem LAt.popT (L : LAt K ps xs H lt lf dn A) {t : LTsk} {r : List LTsk} (e : A.td = t :: r) {Q : VK} (q : ∀ H2 v, TskL K H2 dn t v → LAt K ps xs H2 lt lf dn { A with td := r } → Frm [lt, lf] H H2 → Q v H2) : rPop (.ref lt) [] H Q := by
  obtain ⟨ts, h2, h3⟩ := L.td
  rw [e, List.reverse_cons] at h3
  obtain ⟨ts', v, rfl, h4, h5⟩ := paired_snoc h3
  refine ⟨lt, _, _, rfl, rfl, h2, (popR _ _).1, ?_⟩
  rw [(popR _ _).2]
  have F : Frm [lt] H (upd H lt (.lst ts')) := Frm.upd (by simp) h2 (fun z => z)
  exact q _ v (TskL.keep F.fix h5) (L.setT F upd_same (paired_mono (fun _ _ h => TskL.keep F.fix h) h4)) (F.mono (by simp))
end
/-! ### the names -/
def namK (ps : List Str) (us : List V) : List (Key × V) := (ps.zip us).map fun p => (Sum.inr p.1, p.2)
theorem namK_look {K : PySem.W.Frag} {H : Hp} : ∀ {ps : List Str} {xs : List PV} {us : List V}, Reps K H xs us → ∀ {x : Str} {v : PV}, look ps xs x = some v → ∃ u, valV (namK ps us) (Sum.inr x) = some u ∧ Rep K H v u
  | [], _, _, _, _, _, h => by simp [look] at h
  | _ :: _, [], _, _, _, _, h => by simp [look] at h
  | p :: ps, y :: xs, us, hR, x, v, h => by
    obtain ⟨u, r, rfl, h1, h2⟩ := hR
    simp only [look] at h
    by_cases e : x = p
    · subst e
      rw [if_pos rfl] at h
      cases h
      exact ⟨u, by simp [namK, valV], h1⟩
    · rw [if_neg e] at h
      obtain ⟨u', h3, h4⟩ := namK_look h2 h
      refine ⟨u', ?_, h4⟩
      rw [← h3]
      unfold valV namK
      rw [List.zip_cons_cons, List.map_cons, List.find?_cons, show decide ((Sum.inr p : Key) = Sum.inr x) = false from decide_eq_false (fun z => e (Sum.inr.inj z).symm)]
section
variable {P : Program} {w : World} {K : PySem.W.Frag} {mg : Str → Option Value} {base : Heap}
abbrev sLRun : Stmt := top 36
abbrev nLRun : List Str := ["_law_program", "_law_inputs", "_law_limit", "_law_bodies", "_law_name", "_law_parameters", "_law_body", "_law_names", "_law_k", "_law_todo", "_law_found", "_law_steps", "_law_turn", "_law_task", "_law_branch", "_law_one", "_law_word"]
def spLRun (K : PySem.W.Frag) : Sp := fun vs H Q _ => ∃ (vP : V) (li : Addr) (ivs : List V) (limit m n : Nat) (f0 : Fn) (xs : List PV) (v : PV), vs = [vP, .ref li, vI limit] ∧ Rep K H (encP [f0]) vP ∧ H li = some (.lst ivs) ∧ Reps K H xs ivs ∧ f0.ps.length = xs.length ∧ f0.ps.Nodup ∧ xs.length ≤ 5 ∧ limit ≤ 100 ∧ m < 4 * limit + 4 ∧
  LChain f0.ps xs limit m ⟨[], [.ev f0.body], 0⟩ ⟨[v], [], n⟩ ∧
  ∀ (H' : Hp) (t : Addr) (u : V), Same H H' → H' t = some (.tup [.str "done", u, vI n]) → Rep K H' v u → Q (.ref t) H'
theorem scLRun : FnScope nLRun ["_law_program", "_law_inputs", "_law_limit"] (defScope sLRun) := ⟨rfl, rfl, rfl, by decide +kernel, rfl, by decide +kernel, by decide +kernel⟩
theorem ok_lrun (B : Blt mg) (c__law_do : C8.Cal P w K mg base 1 "_law_do" (spLDo K) []) (g : GDef K mg "_law_run" sLRun []) : C8.Cal P w K mg base 2 "_law_run" (spLRun K) [] := by
  refine cal_of g scLRun (fun _ _ _ _ _ _ us hl => match us, hl with | [_, _, _], _ => rfl) (fun vs H Q E h => ?_) (fun f cdv A outer s H vs Q E hr h => ?_)
  · obtain ⟨vP, li, ivs, limit, m, n, f0, xs, v, rfl, _⟩ := h; rfl
  obtain ⟨vP, li, ivs, limit, m0, n0, f0, xs, v, rfl, hP, hli, hxs, hlen, hnd, h5, hlim, hm0, hC, k⟩ := h
  have nd := scLRun.nd
  have hu := hu_of hr
  refine ⟨_, (pss_cons (ps_set (i := 3) nd rfl (.inl rfl) pe_dnewK)
    (pss_cons (ps_for PassesOwn.never rfl (pi_tup (pv 0)) (pg_tup rfl (pgs_cons (pg_name (i := 4) nd rfl (.inl rfl)) (pgs_cons (pg_name (i := 5) nd rfl (.inl rfl)) (pgs_cons (pg_name (i := 6) nd rfl (.inl rfl)) pgs_nil)))) (pss_one (ps_dput hu (pv 3) (pv 4) (pe_tup (pa_cons (pv 5) (pa_cons (pv 6) pa_nil))) rfl)))
    (pss_cons (ps_set (i := 7) nd rfl (.inl rfl) pe_dnewK)
    (pss_cons (ps_for PassesOwn.never rfl (pi_range1 rfl B.range (pa_cons (pe_callB call_len_seq (by rfl) B.len boot_len (pa_cons (pv 1) pa_nil)) pa_nil)) (pg_name (i := 8) nd rfl (.inl rfl)) (pss_one (ps_dput hu (pv 7) (pe_ix ix_tup (pe_ix ix_tup (pe_ix ix_tup (pv 0) pe_int (fun _ _ => rfl)) pe_int (fun _ _ => rfl)) (pv 8) (fun _ _ => rfl)) (pe_ix ix_list (pv 1) (pv 8) (fun _ _ => rfl)) rfl)))
    (pss_cons (ps_set (i := 9) nd rfl (.inl rfl) (pe_lst (pa_cons (pe_tup (pa_cons pe_str (pa_cons (pe_ix ix_tup (pe_ix ix_tup (pv 0) pe_int (fun _ _ => rfl)) pe_int (fun _ _ => rfl)) (pa_cons (pv 7) pa_nil)))) pa_nil)))
    (pss_cons (ps_set (i := 10) nd rfl (.inl rfl) (pe_lst pa_nil))
    (pss_cons (ps_set (i := 11) nd rfl (.inl rfl) pe_int)
    (pss_cons (ps_for PassesOwn.never rfl (pi_range1 rfl B.range (pa_cons (pe_op op_add (pe_op op_mul pe_int (pv 2)) pe_int) pa_nil)) (pg_name (i := 12) nd rfl (.inl rfl)) (pss_cons (ps_if (pt_cmpR op_eq (pe_callB call_len_seq (by rfl) B.len boot_len (pa_cons (pv 9) pa_nil)) pe_int (nomark _)) (pss_one (ps_ret (pe_tup (pa_cons pe_str (pa_cons (pe_ix ix_list (pv 10) pe_int (fun _ _ => rfl)) (pa_cons (pv 11) pa_nil)))))) pss_nil)
    (pss_cons (ps_set (i := 13) nd rfl (.inl rfl) (pe_bm0 PySem.F.plainAttrs_list PySem.F.slot_list_pop PySem.F.type_list_pop mt_pop (pv 9)))
    (pss_one (ps_if (pt_cmpR op_eq (pe_ix ix_tup (pv 13) pe_int (fun _ _ => rfl)) pe_str (nomark _)) (pss_one (ps_expr (pe_bm PySem.F.plainAttrs_list PySem.F.slot_list_append PySem.F.type_list_append mt_append (pv 10) (pa_cons (C8.pe_c c__law_do hr (by decide) (by rfl) (pa_cons (pe_ix ix_tup (pv 13) pe_int (fun _ _ => rfl)) (pa_cons (pv 10) pa_nil))) pa_nil)))) (pss_one (ps_if (pt_cmpR op_eq (pe_ix ix_tup (pv 13) pe_int (fun _ _ => rfl)) pe_str (nomark _)) (pss_cons (ps_set (i := 14) nd rfl (.inl rfl) (pe_ix ix_tup (pv 13) pe_int (fun _ _ => rfl)))
    (pss_cons (ps_if (pt_cmpR (op_eqD (hr.units)) (pe_bm0 PySem.F.plainAttrs_list PySem.F.slot_list_pop PySem.F.type_list_pop mt_pop (pv 10)) (pe_tup pa_nil) (nomark _)) (pss_one (ps_set (i := 14) nd rfl (.inl rfl) (pe_ix ix_tup (pv 13) pe_int (fun _ _ => rfl)))) pss_nil)
    (pss_one (ps_expr (pe_bm PySem.F.plainAttrs_list PySem.F.slot_list_append PySem.F.type_list_append mt_append (pv 9) (pa_cons (pe_tup (pa_cons pe_str (pa_cons (pv 14) (pa_cons (pe_ix ix_tup (pv 13) pe_int (fun _ _ => rfl)) pa_nil)))) pa_nil)))))) (pss_one (ps_if (pt_cmpR op_eq (pe_ix ix_tup (pv 13) pe_int (fun _ _ => rfl)) pe_str (nomark _)) pss_never (pss_cons (ps_if (pt_cmpR op_eq (pv 11) (pv 2) (nomark _)) pss_never pss_nil)
    (pss_cons (ps_set (i := 11) nd rfl (.inl rfl) (pe_op op_add (pv 11) pe_int))
    (pss_cons (ps_par (i := 15) (j := 7) rfl nd rfl rfl (by decide) rfl rfl (pa_cons (pe_ix ix_tup (pv 13) pe_int (fun _ _ => rfl)) (pa_cons (pe_ix ix_tup (pv 13) pe_int (fun _ _ => rfl)) pa_nil)) (by rfl))
    (pss_one (ps_if (pt_val (pe_callB call_isi (by rfl) B.isinstance (by decide +kernel) (pa_cons (pv 15) (pa_cons (pe_bltn (v := .ty "str") (by rfl) B.str (by decide +kernel) rfl) pa_nil)))) (pss_one (ps_expr (pe_bm PySem.F.plainAttrs_list PySem.F.slot_list_append PySem.F.type_list_append mt_append (pv 10) (pa_cons (pe_dget hu (pv 7) (pv 15) (fun _ _ => rfl)) pa_nil)))) (pss_one (ps_if (pt_cmpR op_eq (pe_ix ix_tup (pv 15) pe_int (fun _ _ => rfl)) pe_str (nomark _)) (pss_one (ps_expr (pe_bm PySem.F.plainAttrs_list PySem.F.slot_list_append PySem.F.type_list_append mt_append (pv 10) (pa_cons (pe_ix ix_tup (pv 15) pe_int (fun _ _ => rfl)) pa_nil)))) (pss_one (ps_if (pt_cmpR op_eq (pe_ix ix_tup (pv 15) pe_int (fun _ _ => rfl)) pe_str (nomark _)) (pss_cons (ps_expr (pe_bm PySem.F.plainAttrs_list PySem.F.slot_list_append PySem.F.type_list_append mt_append (pv 9) (pa_cons (pe_tup (pa_cons pe_str (pa_cons (pe_ix ix_tup (pv 15) pe_int (fun _ _ => rfl)) (pa_cons (pe_ix ix_tup (pv 15) pe_int (fun _ _ => rfl)) (pa_cons (pv 7) pa_nil))))) pa_nil)))
    (pss_one (ps_expr (pe_bm PySem.F.plainAttrs_list PySem.F.slot_list_append PySem.F.type_list_append mt_append (pv 9) (pa_cons (pe_tup (pa_cons pe_str (pa_cons (pe_ix ix_tup (pv 15) pe_int (fun _ _ => rfl)) (pa_cons (pv 7) pa_nil)))) pa_nil))))) (pss_cons (ps_set (i := 16) nd rfl (.inl rfl) pe_str)
    (pss_cons (ps_if (pt_cmpR op_in_seq (pe_ix ix_tup (pv 15) pe_int (fun _ _ => rfl)) (pe_lst (pa_cons pe_str (pa_cons pe_str (pa_cons pe_str (pa_cons pe_str (pa_cons pe_str pa_nil)))))) (by rfl)) (pss_one (ps_set (i := 16) nd rfl (.inl rfl) pe_str)) pss_nil)
    (pss_cons (ps_expr (pe_bm PySem.F.plainAttrs_list PySem.F.slot_list_append PySem.F.type_list_append mt_append (pv 9) (pa_cons (pe_tup (pa_cons (pv 16) (pa_cons (pe_ix ix_tup (pv 15) pe_int (fun _ _ => rfl)) pa_nil))) pa_nil)))
    (pss_one (ps_for PassesOwn.never rfl (pi_range1 rfl B.range (pa_cons (pe_op op_sub (pe_callB call_len_seq (by rfl) B.len boot_len (pa_cons (pv 15) pa_nil)) pe_int) pa_nil)) (pg_name (i := 8) nd rfl (.inl rfl)) (pss_one (ps_expr (pe_bm PySem.F.plainAttrs_list PySem.F.slot_list_append PySem.F.type_list_append mt_append (pv 9) (pa_cons (pe_tup (pa_cons pe_str (pa_cons (pe_ix ix_tup (pv 15) (pe_op op_sub (pe_op op_sub (pe_callB call_len_seq (by rfl) B.len boot_len (pa_cons (pv 15) pa_nil)) pe_int) (pv 8)) (fun _ _ => rfl)) (pa_cons (pv 7) pa_nil)))) pa_nil)))))))))))))))))))))))))))
    pss_never)))))))), ?_⟩
  refine fun db hdb => ?_
  have S1 : Same H (upd H db (.dK [])) := Same.new hdb
  obtain ⟨aP, vsP, rfl, hsP, hrP⟩ := id hP
  obtain ⟨v0, rP, rfl, hr0, hn⟩ := hrP
  cases (show rP = [] from hn)
  obtain ⟨a0, p0, b0, rfl, q1, q2, q3⟩ := repEnc hr0
  refine ⟨_, rfl, aP, rfl, ⟨_, SqT.keep hsP fun b o h _ => S1 _ _ h⟩, ?_⟩
  refine for_tup (K := K) (a := aP) (xs := [.ref a0]) (fun i σ H' => ∃ o4 o5 o6, σ = [some (.ref aP), some (.ref li), some (vI limit), some (.ref db), o4, o5, o6, none, none, none, none, none, none, none, none, none, none] ∧ Same H H' ∧ ∃ kvs, H' db = some (.dK kvs) ∧ kvs.length ≤ 2 * i) ⟨none, none, none, rfl, S1, [], upd_same, by simp⟩ (fun i σ H' _ h => ?_) ?_ ?_
  · obtain ⟨_, _, _, _, S, _⟩ := h
    exact SqT.keep hsP fun b o h _ => S _ _ h
  · rintro i x σ H' hx ⟨o4, o5, o6, rfl, S, kvs, hk, hkl⟩
    have hi : i = 0 := by
      have := (List.getElem?_eq_some_iff.mp hx).1
      simp at this; exact this
    subst hi
    cases (show V.ref a0 = x from Option.some.inj hx)
    refine ⟨a0, _, rfl, SqT.keep q1 (fun b o h _ => S _ _ h), rfl, _, _, rfl, _, _, rfl, _, _, rfl, rfl, ?_⟩
    refine ⟨_, rfl, _, rfl, (by show 2 ≤ sizeLine; decide), fun t ht => ⟨_, rfl, _, rfl, db, _, rfl, DPut.k (k := Sum.inr f0.name) ((Same.new ht) _ _ hk) (small7 (by omega)), ?_⟩⟩
    refine ⟨_, _, _, rfl, fun b o h => ?_, _, upd_same, ?_⟩
    · rw [upd_ne (fun e => by rw [e, hdb] at h; cases h)]
      exact (Same.new ht) _ _ (S _ _ h)
    · have : kvs = [] := List.eq_nil_of_length_eq_zero (by omega)
      subst this
      simp [putK]
  rintro σ H1 ⟨o4, o5, o6, rfl, S2, _⟩
  refine fun dn hdn => ?_
  have S3 : Same H (upd H1 dn (.dK [])) := S2.trans (Same.new hdn)
  have dn0 : H dn = none := Same.free S2 hdn
  have hil : ivs.length = f0.ps.length := by rw [hxs.length, hlen]
  refine ⟨_, rfl, li, _, rfl, .inl (SqL.of (S3 _ _ hli)), (ivs.length : Int), rfl, by omega, by omega, ?_⟩
  rw [Int.toNat_natCast]
  refine for_range (fun i σ H' => ∃ o8, σ = [some (.ref aP), some (.ref li), some (vI limit), some (.ref db), o4, o5, o6, some (.ref dn), o8, none, none, none, none, none, none, none, none] ∧ Same H H' ∧ H' dn = some (.dK ((namK f0.ps ivs).take i))) ⟨none, rfl, S3, upd_same⟩ ?_ ?_
  · rintro i σ H' hi ⟨o8, rfl, S, hN⟩
    have hip : i < f0.ps.length := by omega
    refine ⟨_, rfl, _, rfl, li, _, (i : Int), ivs[i], rfl, (by rw [Int.zero_add]), SqL.of (S _ _ hli), atI_of (List.getElem?_eq_getElem hi), ?_⟩
    refine ⟨_, rfl, _, rfl, aP, _, 0, _, rfl, rfl, SqT.keep hsP (fun b o h _ => S _ _ h), rfl, a0, _, 1, _, rfl, rfl, SqT.keep q1 (fun b o h _ => S _ _ h), rfl, _, rfl, p0, _, (i : Int), .str f0.ps[i], rfl, (by rw [Int.zero_add]), SqT.keep q2 (fun b o h _ => S _ _ h), atI_of (by rw [List.getElem?_map, List.getElem?_eq_getElem hip] <;> rfl), dn, _, rfl, DPut.k (k := Sum.inr f0.ps[i]) hN (by rw [List.length_take]; exact small7 (by omega)), ?_⟩
    refine ⟨_, rfl, fun b o h => ?_, ?_⟩
    · rw [upd_ne (fun e => by rw [e, dn0] at h; cases h)]
      exact S _ _ h
    · have hno : ∀ p ∈ (namK f0.ps ivs).take i, p.1 ≠ Sum.inr f0.ps[i] := fun p hp e => by
        unfold namK at hp
        rw [← List.map_take] at hp
        obtain ⟨q, hq, rfl⟩ := List.mem_map.mp hp
        have e' : q.1 = f0.ps[i] := Sum.inr.inj e
        have hq1 : q.1 ∈ ((f0.ps.zip ivs).take i).map (·.1) := List.mem_map.mpr ⟨q, hq, rfl⟩
        rw [List.map_take, List.map_fst_zip (by omega)] at hq1
        obtain ⟨j, hj, ej⟩ := List.mem_take_iff_getElem.mp hq1
        have := (List.getElem_inj hnd).mp (ej.trans e')
        omega
      rw [upd_same, putK_no hno, List.take_add_one]
      have hz : (namK f0.ps ivs)[i]? = some (Sum.inr f0.ps[i], ivs[i]) := by
        unfold namK
        rw [List.getElem?_map, (List.getElem?_zip_eq_some (z := (f0.ps[i], ivs[i]))).mpr ⟨List.getElem?_eq_getElem hip, List.getElem?_eq_getElem hi⟩] <;> rfl
      rw [hz] <;> rfl
  rintro σ H2 ⟨o8, rfl, S4, hN⟩
  rw [List.take_of_length_le (by unfold namK; rw [List.length_map, List.length_zip]; omega)] at hN
  -- the first task
  have hq1 : SqT K H2 a0 [.str f0.name, .ref p0, b0] := SqT.keep q1 (fun b o h _ => S4 _ _ h)
  refine ⟨_, rfl, aP, _, 0, _, rfl, rfl, SqT.keep hsP (fun b o h _ => S4 _ _ h), rfl, a0, _, 2, _, rfl, rfl, hq1, rfl, _, rfl, (by show 3 ≤ sizeLine; decide), fun t0 ht0 => ⟨(by show 1 ≤ sizeLine; decide), fun lt hlt => ?_⟩⟩
  have S5 : Same H2 (upd (upd H2 t0 (.tup [.str "eval", b0, .ref dn])) lt (.lst [.ref t0])) := (Same.new ht0).trans (Same.new hlt)
  have hlt5 : upd (upd H2 t0 (.tup [.str "eval", b0, .ref dn])) lt (.lst [.ref t0]) lt = some (.lst [.ref t0]) := upd_same
  have ht5 : upd (upd H2 t0 (.tup [.str "eval", b0, .ref dn])) lt (.lst [.ref t0]) t0 = some (.tup [.str "eval", b0, .ref dn]) := (Same.new hlt) _ _ upd_same
  have lt0 : H2 lt = none := Same.free (Same.new ht0) hlt
  refine ⟨Nat.zero_le _, fun lf hlf => ?_⟩
  have nlf : lt ≠ lf := ne_of_none hlt5 hlf
  have lf0 : H2 lf = none := Same.free S5 hlf
  have S6 := S5.trans (Same.new (o := .lst []) hlf)
  have hlf6 : upd (upd (upd H2 t0 (.tup [.str "eval", b0, .ref dn])) lt (.lst [.ref t0])) lf (.lst []) lf = some (.lst []) := upd_same
  have hlt6 := (Same.new (o := .lst []) hlf) _ _ hlt5
  have ht6 := (Same.new (o := .lst []) hlf) _ _ ht5
  change (_ : Ends).nx _ (upd (upd (upd H2 t0 (.tup [.str "eval", b0, .ref dn])) lt (.lst [.ref t0])) lf (.lst []))
  generalize upd (upd (upd H2 t0 (.tup [.str "eval", b0, .ref dn])) lt (.lst [.ref t0])) lf (.lst []) = H3 at S6 hlf6 hlt6 ht6 ⊢
  have S03 := S4.trans S6
  have hb3 : Rep K H3 f0.body b0 := Rep.keep (fun b o h _ => S03 _ _ h) q3
  have hxs3 : Reps K H3 xs ivs := Reps.keep (fun b o h _ => S03 _ _ h) hxs
  have L0 : LAt K f0.ps xs H3 lt lf dn ⟨[], [.ev f0.body], 0⟩ := ⟨⟨_, hlt6, .cons ⟨t0, b0, rfl, ht6, hb3⟩ .nil⟩, ⟨[], hlf6, rfl⟩, ⟨_, S6 _ _ hN, fun x v h => namK_look hxs3 h⟩, nlf⟩
  have ltn : H lt = none := Same.free S4 lt0
  have lfn : H lf = none := Same.free S4 lf0
  refine ⟨_, rfl, _, _, rfl, rfl, .inl ⟨by decide, by decide⟩, _, _, rfl, rfl, (4 * (limit : Int) + 4), rfl, by omega, by omega, ?_⟩
  have eN : (4 * (limit : Int) + 4).toNat = 4 * limit + 4 := by omega
  rw [eN]
  refine for_range (fun i σ H' => ∃ (A : LM) (m : Nat) (o8 o12 o13 o14 o15 o16 : Option V), σ = [some (.ref aP), some (.ref li), some (vI limit), some (.ref db), o4, o5, o6, some (.ref dn), o8, some (.ref lt), some (.ref lf), some (vI A.n), o12, o13, o14, o15, o16] ∧ Frm [lt, lf] H3 H' ∧ LAt K f0.ps xs H' lt lf dn A ∧ LChain f0.ps xs limit m A ⟨[v], [], n0⟩ ∧ LFits A m ∧ i + m < 4 * limit + 4)
    ⟨_, m0, o8, none, none, none, none, none, rfl, Frm.refl, L0, hC, ⟨by show 0 + m0 ≤ _; omega, by show 1 + 6 * m0 ≤ _; omega⟩, by omega⟩ ?_ ?_
  · rintro i σ H1 hi ⟨A, m, o8, o12, o13, o14, o15, o16, rfl, F1, L1, hC1, hF1, him⟩
    obtain ⟨ts, hts, hpt⟩ := L1.td
    have htl := hpt.length
    rw [List.length_reverse] at htl
    refine ⟨_, rfl, lt, _, rfl, .inl (SqL.of hts), rfl, _, rfl, ?_⟩
    cases m with
    | zero =>
      cases hC1
      have e : ts = [] := List.eq_nil_of_length_eq_zero htl.symm
      subst e
      obtain ⟨us, hus, hR⟩ := L1.fd
      obtain ⟨u, r, rfl, hu1, hn⟩ := hR
      cases (show r = [] from hn)
      refine iteT ⟨_, rfl, lf, _, 0, _, rfl, rfl, SqL.of hus, rfl, _, rfl, (by show 3 ≤ sizeLine; decide), fun t ht => ?_⟩
      have S9 : Same H1 (upd H1 t (.tup [.str "done", u, vI n0])) := Same.new ht
      refine k _ t u (fun b o h => S9 _ _ (F1.old _ _ (S03 _ _ h) ?_)) upd_same (Rep.keep (fun b o h _ => S9 _ _ h) hu1)
      simp only [List.mem_cons, List.not_mem_nil, or_false, not_or]
      exact ⟨ne_of_none h ltn, ne_of_none h lfn⟩
    | succ m =>
      obtain ⟨C, hS, hC2⟩ := hC1
      have hF2 := hS.fits hF1
      have hnz : ts.length ≠ 0 := by
        rw [← htl]
        cases hS <;> simp
      refine iteN (decide_eq_false (fun z => by injection z with z; omega)) ?_
      obtain ⟨g1, g2⟩ := hF1
      cases hS with
      | @doo fd kw fd' vr r n h =>
        refine ⟨_, rfl, .inl ⟨rfl, _, SqL.of hts⟩, L1.popT rfl fun H2 tv htk L2 F2 => ?_⟩
        obtain ⟨t, rfl, htt⟩ := htk
        refine ⟨_, rfl, t, _, 0, _, rfl, rfl, SqT.of htt, rfl, rfl, _, rfl, iteT ?_⟩
        obtain ⟨us, hus, hR⟩ := L2.fd
        refine ⟨_, rfl, .inl ⟨rfl, _, SqL.of hus⟩, _, rfl, t, _, 1, _, rfl, rfl, SqT.of htt, rfl, _, rfl, kw, lf, us, fd, fd', vr, rfl, hus, hR, h, fun H4 v4 us4 F4 hl4 hR4 hv4 => ?_⟩
        have L4 := L2.setF F4 hl4 hR4
        obtain ⟨f1, f2⟩ := hF2
        simp only [List.length_append, List.length_singleton] at f1
        refine tNil_app ?_
        refine L4.appF (by show fd'.length ≤ _; omega) hv4 fun H5 L5 F5 => ?_
        exact ⟨⟨fd' ++ [vr], r, n⟩, m, _, _, _, _, _, _, rfl, F1.trans (F2.trans ((F4.mono (by simp)).trans F5)), L5, hC2, ⟨by simp only [List.length_append, List.length_singleton]; exact f1, f2⟩, by omega⟩
      | @br fd c a b r n hc =>
        refine ⟨_, rfl, .inl ⟨rfl, _, SqL.of hts⟩, L1.popT rfl fun H2 tv htk L2 F2 => ?_⟩
        obtain ⟨t, u1, u2, rfl, htt, ra, rb⟩ := htk
        refine ⟨_, rfl, t, _, 0, _, rfl, rfl, SqT.of htt, rfl, rfl, _, rfl, iteF ?_⟩
        refine ⟨_, rfl, t, _, 0, _, rfl, rfl, SqT.of htt, rfl, rfl, _, rfl, iteT ?_⟩
        refine ⟨_, rfl, t, _, 1, _, rfl, rfl, SqT.of htt, rfl, ?_⟩
        obtain ⟨us, hus, _⟩ := L2.fd
        refine ⟨_, rfl, .inl ⟨rfl, _, SqL.of hus⟩, L2.popF rfl fun H4 u4 hu4 L4 F4 => ⟨Nat.zero_le _, fun t5 ht5 => ?_⟩⟩
        have S5 : Same H4 (upd H4 t5 (.tup [])) := Same.new ht5
        have hn5 : Rep K (upd H4 t5 (.tup [])) nilV (.ref t5) := ⟨t5, [], rfl, SqT.of upd_same, rfl⟩
        refine eq_read (Rep.keep (fun b o h _ => S5 _ _ h) hu4) hn5 hc ⟨by simp [pdp, pdps], rfl⟩ ⟨_, rfl, ?_⟩
        have L5 := L4.same S5
        have F5 : Frm [lt, lf] H2 (upd H4 t5 (.tup [])) := F4.trans (Frm.of_same S5)
        generalize upd H4 t5 (.tup []) = H5 at L5 F5 ⊢
        have htt5 := F5.fix _ _ htt trivial
        have ra5 : Rep K H5 a u1 := Rep.keep F5.fix ra
        have rb5 : Rep K H5 b u2 := Rep.keep F5.fix rb
        obtain ⟨ts5, hts5, _⟩ := L5.td
        simp only [List.length_cons] at g2
        by_cases e : c = nilV
        · rw [decide_eq_true e]
          rw [if_pos e] at hC2 hF2
          refine iteT ⟨_, rfl, t, _, 2, _, rfl, rfl, SqT.of htt5, rfl, ?_⟩
          refine ⟨_, rfl, .inl ⟨rfl, _, SqL.of hts5⟩, _, rfl, _, rfl, t, _, 3, _, rfl, rfl, SqT.of htt5, rfl, (by show 3 ≤ sizeLine; decide), fun p hp0 => ?_⟩
          refine tNil_app ?_
          refine L5.pushT (t := .ev b) (by show r.length ≤ _; omega) hp0 ⟨p, u2, rfl, upd_same, Rep.keep (fun b o h _ => (Same.new hp0) _ _ h) rb5⟩ fun H6 L6 F6 => ?_
          exact ⟨⟨fd, .ev b :: r, n⟩, m, _, _, _, _, _, _, rfl, F1.trans (F2.trans (F5.trans F6)), L6, hC2, hF2, by omega⟩
        · rw [decide_eq_false e]
          rw [if_neg e] at hC2 hF2
          refine iteF ?_
          refine ⟨_, rfl, .inl ⟨rfl, _, SqL.of hts5⟩, _, rfl, _, rfl, t, _, 3, _, rfl, rfl, SqT.of htt5, rfl, (by show 3 ≤ sizeLine; decide), fun p hp0 => ?_⟩
          refine tNil_app ?_
          refine L5.pushT (t := .ev a) (by show r.length ≤ _; omega) hp0 ⟨p, u1, rfl, upd_same, Rep.keep (fun b o h _ => (Same.new hp0) _ _ h) ra5⟩ fun H6 L6 F6 => ?_
          exact ⟨⟨fd, .ev a :: r, n⟩, m, _, _, _, _, _, _, rfl, F1.trans (F2.trans (F5.trans F6)), L6, hC2, hF2, by omega⟩
      | @var fd x v1 r n hlk hn =>
        refine ⟨_, rfl, .inl ⟨rfl, _, SqL.of hts⟩, L1.popT rfl fun H2 tv htk L2 F2 => ?_⟩
        obtain ⟨t, u0, rfl, htt, ru⟩ := htk
        refine ⟨_, rfl, t, _, 0, _, rfl, rfl, SqT.of htt, rfl, rfl, _, rfl, iteF ?_⟩
        refine ⟨_, rfl, t, _, 0, _, rfl, rfl, SqT.of htt, rfl, rfl, _, rfl, iteF ?_⟩
        refine ⟨_, rfl, t, _, 0, _, rfl, rfl, SqT.of htt, rfl, rfl, _, rfl, iteF ?_⟩
        refine ⟨_, rfl, _, rfl, rfl, _, rfl, iteN (decide_eq_false (fun z => by injection z with z; exact absurd (Int.ofNat.inj z) (Nat.ne_of_lt hn))) ?_⟩
        refine ⟨_, rfl, _, _, rfl, rfl, ?_⟩
        refine ⟨_, rfl, t, _, 1, _, rfl, rfl, SqT.of htt, rfl, _, rfl, t, _, 2, _, rfl, rfl, SqT.of htt, rfl, _, _, rfl, ?_⟩
        obtain ⟨tt, hk1, hk2⟩ := isi_dat ru
        refine ⟨_, rfl, _, _, tt, _, _, rfl, .ty _, hk1, hk2, _, rfl, ?_⟩
        obtain ⟨us2, hus2, _⟩ := L2.fd
        obtain ⟨ts2, hts2, _⟩ := L2.td
        simp only [List.length_cons, List.length_append, List.length_nil, List.length_map] at g1 g2
        cases (show u0 = .str x from ru)
        obtain ⟨kvs, hk, hall⟩ := L2.env
        obtain ⟨u1, hv1, rv1⟩ := hall _ _ hlk
        refine iteT ⟨_, rfl, .inl ⟨rfl, _, SqL.of hus2⟩, _, rfl, _, rfl, dn, u1, rfl, (by rw [← hv1]; exact DGet.k (k := Sum.inr x) hk), ?_⟩
        refine tNil_app ?_
        refine L2.appF (by show fd.length ≤ _; omega) rv1 fun H6 L6 F6 => ?_
        exact ⟨⟨fd ++ [v1], r, n + 1⟩, m, _, _, _, _, _, _, rfl, F1.trans (F2.trans F6), ⟨L6.td, L6.fd, L6.env, L6.ne⟩, hC2, hF2, by omega⟩
      | @quo fd v1 r n hn =>
        refine ⟨_, rfl, .inl ⟨rfl, _, SqL.of hts⟩, L1.popT rfl fun H2 tv htk L2 F2 => ?_⟩
        obtain ⟨t, u0, rfl, htt, ru⟩ := htk
        refine ⟨_, rfl, t, _, 0, _, rfl, rfl, SqT.of htt, rfl, rfl, _, rfl, iteF ?_⟩
        refine ⟨_, rfl, t, _, 0, _, rfl, rfl, SqT.of htt, rfl, rfl, _, rfl, iteF ?_⟩
        refine ⟨_, rfl, t, _, 0, _, rfl, rfl, SqT.of htt, rfl, rfl, _, rfl, iteF ?_⟩
        refine ⟨_, rfl, _, rfl, rfl, _, rfl, iteN (decide_eq_false (fun z => by injection z with z; exact absurd (Int.ofNat.inj z) (Nat.ne_of_lt hn))) ?_⟩
        refine ⟨_, rfl, _, _, rfl, rfl, ?_⟩
        refine ⟨_, rfl, t, _, 1, _, rfl, rfl, SqT.of htt, rfl, _, rfl, t, _, 2, _, rfl, rfl, SqT.of htt, rfl, _, _, rfl, ?_⟩
        obtain ⟨tt, hk1, hk2⟩ := isi_dat ru
        refine ⟨_, rfl, _, _, tt, _, _, rfl, .ty _, hk1, hk2, _, rfl, ?_⟩
        obtain ⟨us2, hus2, _⟩ := L2.fd
        obtain ⟨ts2, hts2, _⟩ := L2.td
        simp only [List.length_cons, List.length_append, List.length_nil, List.length_map] at g1 g2
        obtain ⟨a1, vs1, rfl, hs1, w0, r0, rfl, e0, w1, r1, rfl, e1, e2⟩ := ru
        cases (show w0 = .str "quote" from e0)
        cases (show r1 = [] from e2)
        refine iteF ⟨_, rfl, a1, _, 0, _, rfl, rfl, hs1, rfl, rfl, _, rfl, iteT ?_⟩
        refine ⟨_, rfl, .inl ⟨rfl, _, SqL.of hus2⟩, _, rfl, a1, _, 1, _, rfl, rfl, hs1, rfl, ?_⟩
        refine tNil_app ?_
        refine L2.appF (by show fd.length ≤ _; omega) e1 fun H6 L6 F6 => ?_
        exact ⟨⟨fd ++ [v1], r, n + 1⟩, m, _, _, _, _, _, _, rfl, F1.trans (F2.trans F6), ⟨L6.td, L6.fd, L6.env, L6.ne⟩, hC2, hF2, by omega⟩
      | @iff fd c a b r n hn =>
        refine ⟨_, rfl, .inl ⟨rfl, _, SqL.of hts⟩, L1.popT rfl fun H2 tv htk L2 F2 => ?_⟩
        obtain ⟨t, u0, rfl, htt, ru⟩ := htk
        refine ⟨_, rfl, t, _, 0, _, rfl, rfl, SqT.of htt, rfl, rfl, _, rfl, iteF ?_⟩
        refine ⟨_, rfl, t, _, 0, _, rfl, rfl, SqT.of htt, rfl, rfl, _, rfl, iteF ?_⟩
        refine ⟨_, rfl, t, _, 0, _, rfl, rfl, SqT.of htt, rfl, rfl, _, rfl, iteF ?_⟩
        refine ⟨_, rfl, _, rfl, rfl, _, rfl, iteN (decide_eq_false (fun z => by injection z with z; exact absurd (Int.ofNat.inj z) (Nat.ne_of_lt hn))) ?_⟩
        refine ⟨_, rfl, _, _, rfl, rfl, ?_⟩
        refine ⟨_, rfl, t, _, 1, _, rfl, rfl, SqT.of htt, rfl, _, rfl, t, _, 2, _, rfl, rfl, SqT.of htt, rfl, _, _, rfl, ?_⟩
        obtain ⟨tt, hk1, hk2⟩ := isi_dat ru
        refine ⟨_, rfl, _, _, tt, _, _, rfl, .ty _, hk1, hk2, _, rfl, ?_⟩
        obtain ⟨us2, hus2, _⟩ := L2.fd
        obtain ⟨ts2, hts2, _⟩ := L2.td
        simp only [List.length_cons, List.length_append, List.length_nil, List.length_map] at g1 g2
        obtain ⟨a1, vs1, rfl, hs1, w0, r0, rfl, e0, w1, r1, rfl, e1, w2, r2, rfl, e2, w3, r3, rfl, e3, e4⟩ := ru
        cases (show w0 = .str "if" from e0)
        cases (show r3 = [] from e4)
        refine iteF ⟨_, rfl, a1, _, 0, _, rfl, rfl, hs1, rfl, rfl, _, rfl, iteF ⟨_, rfl, a1, _, 0, _, rfl, rfl, hs1, rfl, rfl, _, rfl, iteT ?_⟩⟩
        refine ⟨_, rfl, .inl ⟨rfl, _, SqL.of hts2⟩, _, rfl, a1, _, 2, _, rfl, rfl, hs1, rfl, _, rfl, a1, _, 3, _, rfl, rfl, hs1, rfl, _, rfl, (by show 4 ≤ sizeLine; decide), fun p hp0 => ?_⟩
        refine tNil_app ?_
        have Sp : Same H2 (upd H2 p (.tup [.str "if", w2, w3, .ref dn])) := Same.new hp0
        refine L2.pushT (t := .iff a b) (by show r.length ≤ _; omega) hp0 ⟨p, w2, w3, rfl, upd_same, Rep.keep (fun b o h _ => Sp _ _ h) e2, Rep.keep (fun b o h _ => Sp _ _ h) e3⟩ fun H6 L6 F6 => ?_
        obtain ⟨ts6, hts6, _⟩ := L6.td
        have hs6 : SqT K H6 a1 _ := SqT.keep hs1 F6.fix
        refine ⟨_, rfl, .inl ⟨rfl, _, SqL.of hts6⟩, _, rfl, a1, _, 1, _, rfl, rfl, hs6, rfl, _, rfl, (by show 3 ≤ sizeLine; decide), fun p2 hp2 => ?_⟩
        refine tNil_app ?_
        refine L6.pushT (t := .ev c) (by show r.length + 1 ≤ _; omega) hp2 ⟨p2, w1, rfl, upd_same, Rep.keep (fun b o h hf => (Same.new hp2) _ _ (F6.fix _ _ h hf)) e1⟩ fun H7 L7 F7 => ?_
        exact ⟨⟨fd, .ev c :: .iff a b :: r, n + 1⟩, m, _, _, _, _, _, _, rfl, F1.trans (F2.trans (F6.trans F7)), ⟨L7.td, L7.fd, L7.env, L7.ne⟩, hC2, hF2, by omega⟩
      | @prim fd kw es r n hkw h5' hn =>
        refine ⟨_, rfl, .inl ⟨rfl, _, SqL.of hts⟩, L1.popT rfl fun H2 tv htk L2 F2 => ?_⟩
        obtain ⟨t, u0, rfl, htt, ru⟩ := htk
        refine ⟨_, rfl, t, _, 0, _, rfl, rfl, SqT.of htt, rfl, rfl, _, rfl, iteF ?_⟩
        refine ⟨_, rfl, t, _, 0, _, rfl, rfl, SqT.of htt, rfl, rfl, _, rfl, iteF ?_⟩
        refine ⟨_, rfl, t, _, 0, _, rfl, rfl, SqT.of htt, rfl, rfl, _, rfl, iteF ?_⟩
        refine ⟨_, rfl, _, rfl, rfl, _, rfl, iteN (decide_eq_false (fun z => by injection z with z; exact absurd (Int.ofNat.inj z) (Nat.ne_of_lt hn))) ?_⟩
        refine ⟨_, rfl, _, _, rfl, rfl, ?_⟩
        refine ⟨_, rfl, t, _, 1, _, rfl, rfl, SqT.of htt, rfl, _, rfl, t, _, 2, _, rfl, rfl, SqT.of htt, rfl, _, _, rfl, ?_⟩
        obtain ⟨tt, hk1, hk2⟩ := isi_dat ru
        refine ⟨_, rfl, _, _, tt, _, _, rfl, .ty _, hk1, hk2, _, rfl, ?_⟩
        obtain ⟨us2, hus2, _⟩ := L2.fd
        obtain ⟨ts2, hts2, _⟩ := L2.td
        simp only [List.length_cons, List.length_append, List.length_nil, List.length_map] at g1 g2
        obtain ⟨a1, vs1, rfl, hs1, w0, r0, rfl, e0, e1⟩ := ru
        cases (show w0 = .str kw from e0)
        have x1 : kw ≠ "quote" := fun z => absurd (z ▸ hkw) (by decide +kernel)
        have x2 : kw ≠ "if" := fun z => absurd (z ▸ hkw) (by decide +kernel)
        refine iteF ⟨_, rfl, a1, _, 0, _, rfl, rfl, hs1, atI_of (i := 0) rfl, rfl, _, rfl, iteN (decide_eq_false (fun z => x1 (by injection z))) ⟨_, rfl, a1, _, 0, _, rfl, rfl, hs1, atI_of (i := 0) rfl, rfl, _, rfl, iteN (decide_eq_false (fun z => x2 (by injection z))) ?_⟩⟩
        refine ⟨_, rfl, a1, _, 0, _, rfl, rfl, hs1, atI_of (i := 0) rfl, (by show 5 ≤ sizeLine; decide), fun l5 hl5 => ?_⟩
        have Sl : Same H2 (upd H2 l5 (.lst (plainW.map V.str))) := Same.new hl5
        refine ⟨l5, plainW.map V.str, rfl, .inl (SqL.of upd_same), rfl, rfl, _, rfl, iteP (inPlain hkw) ?_⟩
        have L3 := L2.same Sl
        have hs3 : SqT K (upd H2 l5 (.lst (plainW.map V.str))) a1 _ := SqT.keep hs1 (fun b o h _ => Sl _ _ h)
        have F3 : Frm [lt, lf] H2 (upd H2 l5 (.lst (plainW.map V.str))) := Frm.of_same Sl
        have er3 := Reps.keep F3.fix e1
        change (_ : Ends).nx _ (upd H2 l5 (.lst (plainW.map V.str)))
        generalize upd H2 l5 (.lst (plainW.map V.str)) = H3' at L3 hs3 F3 er3 ⊢
        obtain ⟨ts3, hts3, _⟩ := L3.td
        refine ⟨_, rfl, .inl ⟨rfl, _, SqL.of hts3⟩, _, rfl, _, rfl, a1, _, 0, _, rfl, rfl, hs3, atI_of (i := 0) rfl, (by show 2 ≤ sizeLine; decide), fun p hp0 => ?_⟩
        refine tNil_app ?_
        refine L3.pushT (t := .doo kw) (by show r.length ≤ _; omega) hp0 ⟨p, rfl, upd_same⟩ fun H6 L6 F6 => ?_
        have hs6 : SqT K H6 a1 _ := SqT.keep hs3 F6.fix
        have er6 := Reps.keep F6.fix er3
        have hrl := er6.length
        refine ⟨_, rfl, a1, _, rfl, .inr hs6, _, _, rfl, rfl, (es.length : Int), (by rw [List.length_cons, hrl]; show [V.int (((es.length + 1 : Nat) : Int) - 1)] = _; rw [show (((es.length + 1 : Nat) : Int) - 1) = (es.length : Int) by omega]), by omega, by omega, ?_⟩
        rw [Int.toNat_natCast]
        refine for_range (fun j σ H' => ∃ o8, σ = [some (.ref aP), some (.ref li), some (vI limit), some (.ref db), o4, o5, o6, some (.ref dn), o8, some (.ref lt), some (.ref lf), some (vI (n + 1)), some (.int (0 + (i : Int))), some (.ref t), o14, some (.ref a1), some (.str "do")] ∧ Frm [lt, lf] H6 H' ∧ LAt K f0.ps xs H' lt lf dn ⟨fd, (es.drop (es.length - j)).map .ev ++ .doo kw :: r, n + 1⟩) ⟨_, rfl, Frm.refl, by rw [Nat.sub_zero, List.drop_length]; exact ⟨L6.td, L6.fd, L6.env, L6.ne⟩⟩ ?_ ?_
        · rintro j σ H7 hj ⟨o8', rfl, F7, L7⟩
          obtain ⟨ts7, hts7, _⟩ := L7.td
          have hs7 : SqT K H7 a1 _ := SqT.keep hs6 F7.fix
          have hjl : es.length - 1 - j < es.length := by omega
          have hjr : es.length - 1 - j < r0.length := by rw [hrl]; exact hjl
          have er7 := Reps.keep F7.fix er6
          obtain ⟨u7, hu7, ru7⟩ := er7.get (List.getElem?_eq_getElem hjl)
          refine ⟨_, rfl, .inl ⟨rfl, _, SqL.of hts7⟩, _, rfl, _, rfl, a1, _, rfl, .inr hs7, _, _, rfl, rfl, _, rfl, _, _, rfl, rfl, a1, _, ((es.length - j : Nat) : Int), u7, rfl, ?_, hs7, ?_, _, rfl, (by show 3 ≤ sizeLine; decide), fun p2 hp2 => ?_⟩
          · rw [List.length_cons, hrl]
            show V.int (((es.length + 1 : Nat) : Int) - 1 - (0 + (j : Int))) = V.int _
            congr 1
            omega
          · refine atI_of ?_
            rw [show es.length - j = (es.length - 1 - j) + 1 by omega, List.getElem?_cons_succ]
            exact hu7
          refine tNil_app ?_
          refine L7.pushT (t := .ev es[es.length - 1 - j]) (by show (List.map _ _ ++ _).length ≤ _; simp only [List.length_append, List.length_map, List.length_drop, List.length_cons]; omega) hp2 ⟨p2, u7, rfl, upd_same, Rep.keep (fun b o h _ => (Same.new hp2) _ _ h) ru7⟩ fun H8 L8 F8 => ?_
          refine ⟨_, rfl, F7.trans F8, ?_⟩
          have e9 : es.drop (es.length - (j + 1)) = es[es.length - 1 - j] :: es.drop (es.length - j) := by
            rw [show es.length - (j + 1) = es.length - 1 - j by omega, List.drop_eq_getElem_cons hjl, show es.length - 1 - j + 1 = es.length - j by omega]
          rw [e9]
          exact L8
        · rintro σ H7 ⟨o8', rfl, F7, L7⟩
          rw [Nat.sub_self, List.drop_zero] at L7
          exact ⟨⟨fd, es.map .ev ++ .doo kw :: r, n + 1⟩, m, _, _, _, _, _, _, rfl, F1.trans (F2.trans (F3.trans (F6.trans F7))), L7, hC2, hF2, by omega⟩
  · rintro σ H1 ⟨A, m, _, _, _, _, _, _, rfl, _, _, _, _, him⟩
    omega
end
end Og
/-! The small runs in plain Lean. -/
namespace Og
open PySem L2
/-- what a small value is -/
structure Sm (s d : Nat) (v : PV) : Prop where
  sz : psz v ≤ s
  dp : pdp v ≤ d
  st : pok PyData.strOk v = true
theorem Sm.vok {s d : Nat} {v : PV} (h : Sm s d v) (hd : d ≤ 60) : VOk v := ⟨Nat.le_trans h.dp hd, h.st⟩
theorem ValOk.sm {d : Nat} {v : PV} (h : ValOk d v) (hd : d ≤ 2) : Sm 13 2 v := by
  refine ⟨Nat.le_trans h.sz ?_, Nat.le_trans h.dp hd, h.st⟩
  match d, hd with
  | 0, _ => decide
  | 1, _ => decide
  | 2, _ => decide
theorem yes_sm {s d : Nat} (h : 1 ≤ s) : Sm s d yes := ⟨by show 1 ≤ s; exact h, by show 0 ≤ d; omega, by decide +kernel⟩
theorem nil_sm {s d : Nat} (h : 1 ≤ s) (hd : 1 ≤ d) : Sm s d nilV := ⟨by show 1 + 0 ≤ s; omega, by show 1 + 0 ≤ d; omega, rfl⟩
theorem same_sm (a b : PV) : Sm 50 4 (sameV a b) := by
  unfold sameV
  split
  · exact yes_sm (by decide)
  · exact nil_sm (by decide) (by decide)
theorem word_sm (a : PV) : Sm 50 4 (wordV a) := by
  cases a with
  | w x => exact yes_sm (by decide)
  | l xs => exact nil_sm (by decide) (by decide)
theorem head_sm {a : PV} (h : Sm 13 2 a) : Sm 50 4 (headV a) := by
  cases a with
  | w x => exact nil_sm (by decide) (by decide)
  | l xs =>
    cases xs with
    | nil => exact nil_sm (by decide) (by decide)
    | cons x r =>
      obtain ⟨h1, h2, h3⟩ := h
      simp only [psz, pszs, pdp, pdps, pok, poks, Bool.and_eq_true] at h1 h2 h3
      exact ⟨by show psz x ≤ 50; omega, by show pdp x ≤ 4; omega, h3.1⟩
theorem tail_sm {a : PV} (h : Sm 13 2 a) : Sm 50 4 (tailV a) := by
  cases a with
  | w x => exact nil_sm (by decide) (by decide)
  | l xs =>
    cases xs with
    | nil => exact nil_sm (by decide) (by decide)
    | cons x r =>
      obtain ⟨h1, h2, h3⟩ := h
      simp only [psz, pszs, pdp, pdps, pok, poks, Bool.and_eq_true] at h1 h2 h3
      refine ⟨?_, ?_, h3.2⟩
      · simp only [tailV, psz]; omega
      · simp only [tailV, pdp]; omega
theorem join_sm {a b : PV} (ha : Sm 13 2 a) (hb : Sm 13 2 b) : Sm 50 4 (joinV a b) := by
  obtain ⟨h1, h2, h3⟩ := ha
  obtain ⟨g1, g2, g3⟩ := hb
  unfold joinV
  cases b with
  | w x =>
    refine ⟨?_, ?_, ?_⟩
    · simp only [itemsV, psz, pszs]; omega
    · simp only [itemsV, pdp, pdps]; omega
    · simp only [itemsV, pok, poks, h3] <;> rfl
  | l xs =>
    simp only [psz, pdp, pok] at g1 g2 g3
    refine ⟨?_, ?_, ?_⟩
    · simp only [itemsV, psz, pszs]; omega
    · simp only [itemsV, pdp, pdps]; omega
    · simp only [itemsV, pok, poks, h3, g3] <;> rfl
theorem Sm.up {v : PV} (h : Sm 13 2 v) : Sm 50 4 v := ⟨Nat.le_trans h.sz (by decide), Nat.le_trans h.dp (by decide), h.st⟩
theorem look_sm : ∀ {ps : List Str} {xs : List PV} {p : Str}, ps.length = xs.length → (∀ x ∈ xs, ValOk 1 x) → p ∈ ps → ∃ v, look ps xs p = some v ∧ Sm 13 2 v
  | [], _, _, _, _, h => by cases h
  | _ :: _, [], _, h, _, _ => by cases h
  | q :: ps, y :: xs, p, hl, hx, hp => by
    by_cases e : p = q
    · exact ⟨y, by simp [look, e], (hx y List.mem_cons_self).sm (by decide)⟩
    · obtain ⟨v, h1, h2⟩ := look_sm (ps := ps) (xs := xs) (p := p) (by simpa using hl) (fun x hx' => hx x (List.mem_cons_of_mem _ hx')) (by
        rcases List.mem_cons.mp hp with h | h
        · exact absurd h e
        · exact h)
      exact ⟨v, by simp [look, e, h1], h2⟩
section
variable {ps : List Str} {xs : List PV} {P : List Fn}
theorem exp0_run (hl : ps.length = xs.length) (hx : ∀ x ∈ xs, ValOk 1 x) {e : PV} (h : Exp0 ps e) : ∃ v, Sm 13 2 v ∧ Run P (.e ps xs e) [v] 1 ∧ ∀ fd r n, n < 20 → LStep ps xs 20 ⟨fd, .ev e :: r, n⟩ ⟨fd ++ [v], r, n + 1⟩ := by
  cases h with
  | par hp =>
    obtain ⟨v, h1, h2⟩ := look_sm hl hx hp
    exact ⟨v, h2, .var h1, fun fd r n hn => .var h1 hn⟩
  | quo hv => exact ⟨_, hv.sm (by decide), .quo, fun fd r n hn => .quo hn⟩
theorem exp1_run (hl : ps.length = xs.length) (hx : ∀ x ∈ xs, ValOk 1 x) {e : PV} (h : Exp1 ps e) : ∃ v m n, Sm 50 4 v ∧ n ≤ 3 ∧ m ≤ 10 ∧ Run P (.e ps xs e) [v] n ∧ LChain ps xs 20 m ⟨[], [.ev e], 0⟩ ⟨[v], [], n⟩ := by
  cases h with
  | base h =>
    obtain ⟨v, h1, h2, h3⟩ := exp0_run (P := P) hl hx h
    exact ⟨v, 1, 1, h1.up, by decide, by decide, h2, _, h3 [] [] 0 (by decide), rfl⟩
  | @iff a b c ha hb hc =>
    obtain ⟨va, a1, a2, a3⟩ := exp0_run (P := P) hl hx ha
    obtain ⟨vb, b1, b2, b3⟩ := exp0_run (P := P) hl hx hb
    obtain ⟨vc, c1, c2, c3⟩ := exp0_run (P := P) hl hx hc
    by_cases e : va = nilV
    · refine ⟨vc, 4, 3, c1.up, by decide, by decide, Run.cast (Run.if_ a2 (b := c) (a := b) (v := vc) (m := 1) (by rw [if_pos e]; exact c2)) rfl, ?_⟩
      refine ⟨_, .iff (by decide), _, a3 [] _ 1 (by decide), _, .br (fd := []) (a1.vok (by decide)), _, ?_, rfl⟩
      rw [if_pos e]
      exact c3 [] [] 2 (by decide)
    · refine ⟨vb, 4, 3, b1.up, by decide, by decide, Run.cast (Run.if_ a2 (b := c) (a := b) (v := vb) (m := 1) (by rw [if_neg e]; exact b2)) rfl, ?_⟩
      refine ⟨_, .iff (by decide), _, a3 [] _ 1 (by decide), _, .br (fd := []) (a1.vok (by decide)), _, ?_, rfl⟩
      rw [if_neg e]
      exact b3 [] [] 2 (by decide)
  | @same a b ha hb =>
    obtain ⟨va, a1, a2, a3⟩ := exp0_run (P := P) hl hx ha
    obtain ⟨vb, b1, b2, b3⟩ := exp0_run (P := P) hl hx hb
    refine ⟨sameV va vb, 4, 3, same_sm _ _, by decide, by decide, Run.cast (.same (.a2 a2 b2)) rfl, ?_⟩
    exact ⟨_, .prim (by decide +kernel) (by simp) (by decide), _, a3 [] _ 1 (by decide), _, b3 [va] _ 2 (by decide), _, .doo (.same (fs := []) (a1.vok (by decide)) (b1.vok (by decide))), rfl⟩
  | @join a b ha hb =>
    obtain ⟨va, a1, a2, a3⟩ := exp0_run (P := P) hl hx ha
    obtain ⟨vb, b1, b2, b3⟩ := exp0_run (P := P) hl hx hb
    refine ⟨joinV va vb, 4, 3, join_sm a1 b1, by decide, by decide, Run.cast (.join (.a2 a2 b2)) rfl, ?_⟩
    exact ⟨_, .prim (by decide +kernel) (by simp) (by decide), _, a3 [] _ 1 (by decide), _, b3 [va] _ 2 (by decide), _, .doo (.join (fs := []) (Nat.le_trans b1.sz (by decide))), rfl⟩
  | @word a ha =>
    obtain ⟨va, a1, a2, a3⟩ := exp0_run (P := P) hl hx ha
    refine ⟨wordV va, 3, 2, word_sm _, by decide, by decide, Run.cast (.word (.a1 a2)) rfl, ?_⟩
    exact ⟨_, .prim (by decide +kernel) (by simp) (by decide), _, a3 [] _ 1 (by decide), _, .doo (.word (fs := [])), rfl⟩
  | @head a ha =>
    obtain ⟨va, a1, a2, a3⟩ := exp0_run (P := P) hl hx ha
    refine ⟨headV va, 3, 2, head_sm a1, by decide, by decide, Run.cast (.head (.a1 a2)) rfl, ?_⟩
    exact ⟨_, .prim (by decide +kernel) (by simp) (by decide), _, a3 [] _ 1 (by decide), _, .doo (.head (fs := [])), rfl⟩
  | @tail a ha =>
    obtain ⟨va, a1, a2, a3⟩ := exp0_run (P := P) hl hx ha
    refine ⟨tailV va, 3, 2, tail_sm a1, by decide, by decide, Run.cast (.tail (.a1 a2)) rfl, ?_⟩
    exact ⟨_, .prim (by decide +kernel) (by simp) (by decide), _, a3 [] _ 1 (by decide), _, .doo (.tail (fs := [])), rfl⟩
theorem exp0_sz {e : PV} (h : Exp0 ps e) : psz e ≤ 15 := by
  cases h with
  | par _ => simp [psz]
  | quo hv =>
    have := (hv.sm (by decide)).sz
    simp only [psz, pszs]
    omega
theorem exp1_sz {e : PV} (h : Exp1 ps e) : psz e ≤ 50 := by
  cases h with
  | base h => have := exp0_sz h; omega
  | iff a b c =>
    have := exp0_sz a
    have := exp0_sz b
    have := exp0_sz c
    simp only [psz, pszs]
    omega
  | same a b =>
    have := exp0_sz a
    have := exp0_sz b
    simp only [psz, pszs]
    omega
  | join a b =>
    have := exp0_sz a
    have := exp0_sz b
    simp only [psz, pszs]
    omega
  | word a => have := exp0_sz a; simp only [psz, pszs]; omega
  | head a => have := exp0_sz a; simp only [psz, pszs]; omega
  | tail a => have := exp0_sz a; simp only [psz, pszs]; omega
theorem words_sz : ∀ ps : List Str, pszs (ps.map .w) = ps.length
  | [] => rfl
  | p :: ps => by simp only [List.map_cons, pszs, psz, words_sz ps, List.length_cons]; omega
end
/-- the two runs of the universal program -/
theorem two_runs {ps : List Str} {xs : List PV} {e : PV} (hl : ps.length = xs.length) (h2 : ps.length ≤ 2) (hx : ∀ x ∈ xs, ValOk 1 x) (h : Exp1 ps e) : ∃ v m n n1 n2, Sm 50 4 v ∧ n ≤ 3 ∧ m ≤ 10 ∧ LChain ps xs 20 m ⟨[], [.ev e], 0⟩ ⟨[v], [], n⟩ ∧
    n1 ≤ 4000 ∧ Run U (.e ["p", "xs"] [encP [⟨"main", ps, e⟩], .l xs] bMain) [v] n1 ∧ n2 ≤ 200000 ∧ Run U (.e ["p", "xs"] [encP U, .l [encP [⟨"main", ps, e⟩], .l xs]] bMain) [v] n2 := by
  obtain ⟨v, m, n, hs, hn, hm, hr, hc⟩ := exp1_run (P := [⟨"main", ps, e⟩]) hl hx h
  have f5 : ∀ k f, findF [⟨"main", ps, e⟩] k = some f → f.ps.length ≤ 5 := fun k f hf => by
    simp only [findF] at hf
    split at hf
    · cases hf; show ps.length ≤ 5; omega
    · cases hf
  obtain ⟨n1, b1, r1⟩ := sim_main (P := [⟨"main", ps, e⟩]) (by simp) f5 (f := ⟨"main", ps, e⟩) (rest := []) rfl (by show ps.length ≤ 5; omega) hr
  have u5 : ∀ k f, findF U k = some f → f.ps.length ≤ 5 := fun k f hf => by
    have hall : (U.all fun f => decide (f.ps.length ≤ 5)) = true := by decide +kernel
    have hmem : ∀ (P : List Fn), findF P k = some f → f ∈ P := by
      intro P
      induction P with
      | nil => intro h; cases h
      | cons g r ih =>
        intro h
        simp only [findF] at h
        split at h
        · cases h; exact List.mem_cons_self
        · exact List.mem_cons_of_mem _ (ih h)
    exact of_decide_eq_true (List.all_eq_true.mp hall f (hmem U hf))
  obtain ⟨n2, b2, r2⟩ := sim_main (P := U) (by decide) u5 (f := ⟨"main", ["p", "xs"], bMain⟩) (rest := U.tail) rfl (by decide) r1
  exact ⟨v, m, n, n1, n2, hs, hn, hm, hc, by omega, r1, by omega, r2⟩
end Og
/-! law. -/
namespace Og
open PySem PySem.Spec L2
theorem pe_cN {X : Cx} {x : Str} {p pos : Pos} {sp : Sp} {k j : Nat} (c : C8.Cal X.prog X.w X.K X.mg X.base k x sp []) (hr : Room j X.A) (hk : k ≤ j) (hg : Gl X x) (hdb : (x == ("__debug__" : Str)) = false := by decide) :
    PE X (.Call (.Name x p) [] [] pos) (tCall sp [] C8.E0 tNil) := by
  obtain ⟨f, fd, ps, ds, F, hm, kp, b, d⟩ := c.ex
  exact pe_call0 F (hr.mono hk) hg hm kp b d C8.pass0 hdb
theorem slA_read {K : PySem.W.Frag} {H : Hp} {a : Addr} {xs : List V} {r : Nat} (h : SqT K H a xs) (hr : r ≤ xs.length) {Q : VK} (q : ∀ H' p, Same H H' → SqT K H' p (xs.take r) → Q (.ref p) H') : rSlA K (.ref a) none (some (r : Int)) H Q := by
  refine ⟨a, xs, rfl, h, fun hw => ?_, fun _ p hp => ?_⟩
  · obtain ⟨_, h2⟩ := hw
    rw [HT.sIx_nat] at h2
    exact q H a (fun _ _ h => h) (by rw [List.take_of_length_le (by omega)]; exact h)
  · rw [cutV_to _ _ hr]
    exact q _ p (Same.new hp) (SqT.of upd_same)
section
variable {P : Program} {w : World} {K : PySem.W.Frag} {mg : Str → Option Value} {base : Heap} {CR : Addr}
abbrev sLaw : Stmt := top 37
abbrev nLaw : List Str := ["_law_script", "_law_hand", "_law_parameters", "_law_program", "_law_inputs", "_law_due", "_law_machine", "_law_inner", "_law_run_here", "_law_k"]
def spLaw (K : PySem.W.Frag) : Sp := fun vs H Q _ => ∃ (a : Addr) (ns : List Int), vs = [.ref a] ∧ SqL K H a (ns.map V.int) ∧ ns.length ≤ 1000 ∧ ∀ H', Q (.bl true) H'
theorem scLaw : FnScope nLaw ["_law_script"] (defScope sLaw) := ⟨rfl, rfl, rfl, by decide +kernel, rfl, by decide +kernel, by decide +kernel⟩
theorem ndU : ∀ k f, findF U k = some f → f.ps.Nodup ∧ f.ps.length ≤ 5 := fun k f hf => by
  have hall : (U.all fun f => decide (f.ps.Nodup ∧ f.ps.length ≤ 5)) = true := by decide +kernel
  have hmem : ∀ (P : List Fn), findF P k = some f → f ∈ P := by
    intro P
    induction P with
    | nil => intro h; cases h
    | cons g r ih =>
      intro h
      simp only [findF] at h
      split at h
      · cases h; exact List.mem_cons_self
      · exact List.mem_cons_of_mem _ (ih h)
  exact of_decide_eq_true (List.all_eq_true.mp hall f (hmem U hf))
theorem szU : psz (encP U) ≤ 5000 := by decide +kernel
theorem reps_of_list {H : Hp} {ps : List Str} : Reps K H (ps.map .w) (ps.map .str) := by
  induction ps with
  | nil => rfl
  | cons p r ih => exact ⟨_, _, rfl, rfl, ih⟩
theorem take_xy (r : Nat) : ∃ ps : List Str, ([.str "x", .str "y"] : List V).take r = ps.map .str ∧ ps.Nodup ∧ ps.length ≤ 2 :=
  ⟨(["x", "y"] : List Str).take r, by rw [List.map_take]; rfl, List.Nodup.sublist (List.take_sublist _ _) (by decide +kernel), by rw [List.length_take]; exact Nat.min_le_right _ _⟩
theorem ok_law (B : Blt mg) (R : RCl K CR) (c__law_draws : C8.Cal P w K mg base 1 "_law_draws" (spDraws K) []) (c__law_take : C8.Cal P w K mg base 1 "_law_take" spTake []) (c__law_value : C8.Cal P w K mg base 3 "_law_value" (spValue K 1) [])
    (c__law_expression : C8.Cal P w K mg base 6 "_law_expression" (spExpr K 1 Exp1) []) (c__law_run : C8.Cal P w K mg base 2 "_law_run" (spLRun K) []) (c_universal : C8.Cal P w K mg base 1 "universal" (spUniversal K) []) (c_run_program : C8.Cal P w K mg base 7 "run_program" (spRunProgram K CR) [])
    {f : Addr} {fd : FuncData} (F : FunD K "law" "law" (defArgs sLaw) (defBody sLaw) (defScope sLaw) [] [] f fd) : FnOk P w K mg base CX0 8 f fd ["_law_script"] (spLaw K) := by
  refine fnok_of F scLaw (fun vs H Q E h => ?_) (fun f cdv A outer s H vs Q E hr h => ?_)
  · obtain ⟨a, ns, rfl, _⟩ := h; rfl
  obtain ⟨a, ns, rfl, hS, hl, k⟩ := h
  have nd := scLaw.nd
  refine ⟨_, (pss_cons (ps_set (i := 1) nd rfl (.inr rfl) (pe_lst (pa_cons (C8.pe_c c__law_draws hr (by decide) (by rfl) (pa_cons (pv 0) (pa_cons pe_int pa_nil))) (pa_cons pe_int pa_nil))))
    (pss_cons (ps_set (i := 2) nd rfl (.inl rfl) (pe_slice sl_tupA (pe_tup (pa_cons pe_str (pa_cons pe_str pa_nil))) po_none (po_some (C8.pe_c c__law_take hr (by decide) (by rfl) (pa_cons (pv 1) (pa_cons pe_int pa_nil))))))
    (pss_cons (ps_set (i := 3) nd rfl (.inl rfl) (pe_tup (pa_cons (pe_tup (pa_cons pe_str (pa_cons (pv 2) (pa_cons (C8.pe_c c__law_expression hr (by decide) (by rfl) (pa_cons (pv 1) (pa_cons (pv 2) (pa_cons (pe_lst pa_nil) (pa_cons pe_int pa_nil))))) pa_nil)))) pa_nil)))
    (pss_cons (ps_setLc (i := 4) (own := [("_law_k", 9)]) (g := gName 9) (tt := tYes) (te := tCall (spValue K 1) [] C8.E0 (tCons (tVar 1) (tCons (tC (.int 1)) tNil))) rfl nd rfl rfl (sw_true rfl rfl rfl (by decide +kernel)) (pi_range1 rfl B.range (pa_cons (pe_callB call_len_seq (by rfl) B.len boot_len (pa_cons (pv 2) pa_nil)) pa_nil)) (blkOk_by (N := nLaw) (sc := defScope sLaw) (by decide +kernel)) (fun _ _ _ _ _ => pg_name (i := 9) nd rfl (Or.inl rfl)) (fun _ _ _ _ _ => pts_nil) (fun _ _ _ _ _ => C8.pe_c c__law_value hr (by decide) (by rfl) (pa_cons (pv 1) (pa_cons pe_int pa_nil))))
    (pss_cons (ps_set (i := 5) nd rfl (.inl rfl) (C8.pe_c c__law_run hr (by decide) (by rfl) (pa_cons (pv 3) (pa_cons (pv 4) (pa_cons pe_int pa_nil)))))
    (pss_cons (ps_if (pt_cmpR op_ne (pe_ix ix_tup (pv 5) pe_int (fun _ _ => rfl)) pe_str (nomark _)) pss_never pss_nil)
    (pss_cons (ps_set (i := 6) nd rfl (.inl rfl) (pe_cN c_universal hr (by decide) (by rfl)))
    (pss_cons (ps_set (i := 7) nd rfl (.inl rfl) (C8.pe_c c_run_program hr (by decide) (by rfl) (pa_cons (pv 6) (pa_cons (pe_lst (pa_cons (pv 3) (pa_cons (pe_callTy call_tuple_of (by rfl) B.tuple (by decide +kernel) (pa_cons (pv 4) pa_nil)) pa_nil))) (pa_cons pe_int pa_nil)))))
    (pss_cons (ps_if (PW.pt (pw_or (pt_cmpR op_ne (pe_fld (pv 7) rfl) pe_str (nomark _)) (pw_or1 (pt_cmpR (op_neD (hr.units)) (pe_fld (pv 7) rfl) (pe_ix ix_tup (pv 5) pe_int (fun _ _ => rfl)) (nomark _))))) pss_never pss_nil)
    (pss_cons (ps_set (i := 8) nd rfl (.inl rfl) (C8.pe_c c_run_program hr (by decide) (by rfl) (pa_cons (pv 6) (pa_cons (pe_lst (pa_cons (pv 6) (pa_cons (pe_tup (pa_cons (pv 3) (pa_cons (pe_callTy call_tuple_of (by rfl) B.tuple (by decide +kernel) (pa_cons (pv 4) pa_nil)) pa_nil))) pa_nil))) (pa_cons pe_int pa_nil)))))
    (pss_one (ps_ret (pe_and (pe_cmpR op_eq (pe_fld (pv 8) rfl) pe_str (nomark _)) (pe_one (pe_cmpR (op_eqD (hr.units)) (pe_fld (pv 8) rfl) (pe_ix ix_tup (pv 5) pe_int (fun _ _ => rfl)) (nomark _)))))))))))))))), ?_⟩
  -- the hand
  refine ⟨_, rfl, a, ns, 60, rfl, hS, hl, (by decide), fun H1 dr ds S1 _ hdr => ⟨(by show 2 ≤ sizeLine; decide), fun hd hhd => ?_⟩⟩
  have HA1 : HandAt (upd H1 hd (.lst [.ref dr, .int 0])) hd dr := ⟨0, ds, upd_same, (Same.new hhd) _ _ hdr⟩
  change (_ : Ends).nx _ (upd H1 hd (.lst [.ref dr, .int 0]))
  generalize upd H1 hd (.lst [.ref dr, .int 0]) = H2 at HA1 ⊢
  -- the parameters
  refine ⟨(by show 2 ≤ sizeLine; decide), fun tp htp => ?_⟩
  have S3 : Same H2 (upd H2 tp (.tup [.str "x", .str "y"])) := Same.new htp
  refine ⟨_, rfl, hd, dr, 3, rfl, HA1.frm S3, (by decide), fun H4 r HA4 F4 hr3 => ⟨_, rfl, slA_read (K := K) (xs := [.str "x", .str "y"]) (SqT.of (F4.fix _ _ upd_same trivial)) (by show r ≤ 2; omega) fun H5 pa S5 hpa => ?_⟩⟩
  obtain ⟨ps, hps, hpnd, hpl⟩ := take_xy r
  rw [hps] at hpa
  have HA5 := HA4.frm S5
  -- the program
  refine ⟨_, rfl, _, rfl, _, rfl, Nat.zero_le _, fun ca hca => ?_⟩
  have S6 : Same H5 (upd H5 ca (.lst [])) := Same.new hca
  refine ⟨hd, pa, ca, dr, ps, rfl, HA5.frm S6, SqT.keep hpa (fun b o h _ => S6 _ _ h), upd_same, fun H7 vx x HA7 F7 hrx hox => ⟨(by show 3 ≤ sizeLine; decide), fun t1 ht1 => ⟨(by show 1 ≤ sizeLine; decide), fun t2 ht2 => ?_⟩⟩⟩
  have hpa7 : SqT K H7 pa (ps.map .str) := SqT.keep (SqT.keep hpa (fun b o h _ => S6 _ _ h)) F7.fix
  have S8 : Same H7 (upd (upd H7 t1 (.tup [.str "main", .ref pa, vx])) t2 (.tup [.ref t1])) := (Same.new ht1).trans (Same.new ht2)
  have ht18 : upd (upd H7 t1 (.tup [.str "main", .ref pa, vx])) t2 (.tup [.ref t1]) t1 = some (.tup [.str "main", .ref pa, vx]) := (Same.new ht2) _ _ upd_same
  have ht28 : upd (upd H7 t1 (.tup [.str "main", .ref pa, vx])) t2 (.tup [.ref t1]) t2 = some (.tup [.ref t1]) := upd_same
  change (_ : Ends).nx _ (upd (upd H7 t1 (.tup [.str "main", .ref pa, vx])) t2 (.tup [.ref t1]))
  generalize upd (upd H7 t1 (.tup [.str "main", .ref pa, vx])) t2 (.tup [.ref t1]) = H8 at S8 ht18 ht28 ⊢
  have HA8 := HA7.frm S8
  have hpa8 : SqT K H8 pa (ps.map .str) := SqT.keep hpa7 (fun b o h _ => S8 _ _ h)
  have hP8 : Rep K H8 (encP [⟨"main", ps, x⟩]) (.ref t2) := ⟨t2, _, rfl, SqT.of ht28, .ref t1, [], rfl, ⟨t1, _, rfl, SqT.of ht18, _, _, rfl, rfl, _, _, rfl, ⟨pa, _, rfl, hpa8, reps_of_list⟩, _, _, rfl, Rep.keep (fun b o h _ => S8 _ _ h) hrx, rfl⟩, rfl⟩
  -- the inputs
  refine ⟨_, rfl, pa, _, rfl, .inr hpa8, (ps.length : Int), (by rw [List.length_map]), by omega, by omega, fun D hD => ?_⟩
  rw [Int.toNat_natCast]
  have nDh : D ≠ hd := fun e => by
    obtain ⟨i, ds, h1, _⟩ := HA8.ex
    rw [e, h1] at hD; cases hD
  refine lc_range (lo := 0) (n := ps.length) (fun i H' => HandAt H' hd dr ∧ Frm [hd] H8 H' ∧ ∃ (us : List V) (xs : List PV), H' D = some (.lst us) ∧ Reps K H' xs us ∧ xs.length = i ∧ ∀ x ∈ xs, ValOk 1 x) ⟨HA8.frm (Same.new hD), Frm.of_same (Same.new hD), [], [], upd_same, rfl, rfl, by simp⟩ ?_ ?_
  · rintro i H' hi ⟨HA', F', us, xs, hus, hR, hxl, hok⟩
    refine ⟨rfl, ?_⟩
    dsimp only [tYes]
    rw [if_pos rfl]
    refine ⟨_, rfl, hd, dr, rfl, HA', fun H3 v x HA3 F3 hrep hval => ?_⟩
    have hD3 := F3.old _ _ hus (by simp [nDh])
    have hul := hR.length
    have fx : ∀ b o, H' b = some o → Fix o → upd H3 D (.lst (us ++ [v])) b = some o := fun b o h hf => by
      rw [upd_ne (fun e => by rw [e, hus] at h; cases h; exact hf)]
      exact F3.fix _ _ h hf
    have fx3 : ∀ b o, H3 b = some o → Fix o → upd H3 D (.lst (us ++ [v])) b = some o := fun b o h hf => by
      rw [upd_ne (fun e => by rw [e, hD3] at h; cases h; exact hf)]
      exact h
    obtain ⟨i3, ds3, q1, q2⟩ := HA3.ex
    have nDd : dr ≠ D := fun e => by
      obtain ⟨_, _, _, q⟩ := HA8.ex
      rw [e, hD] at q; cases q
    refine ⟨us, hD3, (by rw [hul]; exact small7 (by omega)), ⟨i3, ds3, (upd_ne nDh.symm).trans q1, (upd_ne nDd).trans q2⟩, (F'.trans F3).updN hD, us ++ [v], xs ++ [x], upd_same, (Reps.keep fx hR).append ⟨v, [], rfl, Rep.keep fx3 hrep, rfl⟩, by simp [hxl], fun y hy => ?_⟩
    rcases List.mem_append.mp hy with hy | hy
    · exact hok y hy
    · rw [List.mem_singleton.mp hy]; exact hval
  rintro H9 ⟨HA9, F9, us, xs, hus, hR, hxl, hok⟩
  have hP9 : Rep K H9 (encP [⟨"main", ps, x⟩]) (.ref t2) := Rep.keep F9.fix hP8
  obtain ⟨v, m, n, n1, n2, hsm, hn, hm, hch, hn1, hr1, hn2, hr2⟩ := two_runs hxl.symm hpl hok hox
  have hvok : VOk v := hsm.vok (by decide)
  -- the run by hand
  refine ⟨_, rfl, _, rfl, .ref t2, D, us, 20, m, n, ⟨"main", ps, x⟩, xs, v, rfl, hP9, hus, hR, hxl.symm, hpnd, (by omega), (by decide), (by omega), hch, fun H10 td u S10 htd hu => ?_⟩
  refine ⟨_, rfl, td, _, 0, _, rfl, rfl, SqT.of htd, rfl, rfl, _, rfl, iteN (by rfl) ?_⟩
  -- the universal program
  refine ⟨rfl, fun vU hvU => ?_⟩
  have hU : ∃ vU' : V, vU' = vU := ⟨_, rfl⟩
  have hus10 := S10 _ _ hus
  have hP10 : Rep K H10 (encP [⟨"main", ps, x⟩]) (.ref t2) := Rep.keep (fun b o h _ => S10 _ _ h) hP9
  have hR10 : Reps K H10 xs us := Reps.keep (fun b o h _ => S10 _ _ h) hR
  -- the inner run
  refine ⟨_, rfl, _, rfl, _, rfl, D, us, rfl, .inl ⟨SqL.of hus10, fun l hl' => ⟨(by show 2 ≤ sizeLine; decide), fun l2 hl2 => ?_⟩⟩⟩
  have S11 : Same H10 (upd (upd H10 l (.tup us)) l2 (.lst [.ref t2, .ref l])) := (Same.new hl').trans (Same.new hl2)
  have hl11 : upd (upd H10 l (.tup us)) l2 (.lst [.ref t2, .ref l]) l = some (.tup us) := (Same.new hl2) _ _ upd_same
  have hl211 : upd (upd H10 l (.tup us)) l2 (.lst [.ref t2, .ref l]) l2 = some (.lst [.ref t2, .ref l]) := upd_same
  have szx : psz (encP [⟨"main", ps, x⟩]) ≤ 100 := by
    have h1 := exp1_sz hox
    have h2 := words_sz ps
    simp only [encP, List.map_cons, List.map_nil, psz, pszs, Fn.enc]
    omega
  have szi : pszs xs ≤ 100 := by
    have h1 := (vals_ok hok).1
    have : xs.length * vb 1 ≤ 2 * vb 1 := Nat.mul_le_mul_right _ (by omega)
    have e : vb 1 = 4 := rfl
    omega
  have hszU := szU
  have st1 : Starts K (upd (upd H10 l (.tup us)) l2 (.lst [.ref t2, .ref l])) U ⟨"main", ["p", "xs"], bMain⟩ [encP [⟨"main", ps, x⟩], .l xs] vU l2 [.ref t2, .ref l] :=
    ⟨Rep.keep (fun b o h _ => S11 _ _ h) hvU, okU, ⟨U.tail, rfl⟩, hl211, ⟨_, _, rfl, Rep.keep (fun b o h _ => S11 _ _ h) hP10, _, _, rfl, ⟨l, us, rfl, SqT.of hl11, Reps.keep (fun b o h _ => S11 _ _ h) hR10⟩, rfl⟩, rfl, (by show 2 ≤ 5; decide), by
      simp only [pszs, psz] at szx szi ⊢
      omega⟩
  refine ⟨vU, l2, _, U, ⟨"main", ["p", "xs"], bMain⟩, _, 4000, n1, v, rfl, st1, ndU, hr1, hn1, (by decide), Nat.le_trans hsm.sz (by decide), Nat.le_trans hsm.dp (by decide), fun H12 r12 dx12 u12 S12 hr12 hu12 => ?_⟩
  have S1012 := S11.trans S12
  have htd12 := S1012 _ _ htd
  have hu12' : Rep K H12 v u := Rep.keep (fun b o h _ => S1012 _ _ h) hu
  refine ⟨_, rfl, _, _, _, _, _, rfl, hr12, R.cl, R.nKind, rfl, rfl, _, rfl, iteN (by rfl) ?_⟩
  refine ⟨_, rfl, _, _, _, _, _, rfl, hr12, R.cl, R.nValue, rfl, _, rfl, td, _, 1, _, rfl, rfl, SqT.of htd12, rfl, ne_read hu12 hu12' hvok hvok ⟨_, rfl, iteN (by rw [decide_eq_true rfl] <;> rfl) ?_⟩⟩
  -- the run upon the run
  refine ⟨_, rfl, _, rfl, _, rfl, _, rfl, D, us, rfl, .inl ⟨SqL.of (S1012 _ _ hus10), fun l' hl3 => ⟨(by show 2 ≤ sizeLine; decide), fun tt htt => ⟨(by show 2 ≤ sizeLine; decide), fun l4 hl4 => ?_⟩⟩⟩⟩
  have S13 : Same H12 (upd (upd (upd H12 l' (.tup us)) tt (.tup [.ref t2, .ref l'])) l4 (.lst [vU, .ref tt])) := (Same.new hl3).trans ((Same.new htt).trans (Same.new hl4))
  have h13a : upd (upd (upd H12 l' (.tup us)) tt (.tup [.ref t2, .ref l'])) l4 (.lst [vU, .ref tt]) l' = some (.tup us) := ((Same.new htt).trans (Same.new hl4)) _ _ upd_same
  have h13b : upd (upd (upd H12 l' (.tup us)) tt (.tup [.ref t2, .ref l'])) l4 (.lst [vU, .ref tt]) tt = some (.tup [.ref t2, .ref l']) := (Same.new hl4) _ _ upd_same
  have S1013 := S1012.trans S13
  have hU13 : Rep K (upd (upd (upd H12 l' (.tup us)) tt (.tup [.ref t2, .ref l'])) l4 (.lst [vU, .ref tt])) (encP U) vU := Rep.keep (fun b o h _ => S1013 _ _ h) hvU
  have st2 : Starts K (upd (upd (upd H12 l' (.tup us)) tt (.tup [.ref t2, .ref l'])) l4 (.lst [vU, .ref tt])) U ⟨"main", ["p", "xs"], bMain⟩ [encP U, .l [encP [⟨"main", ps, x⟩], .l xs]] vU l4 [vU, .ref tt] :=
    ⟨hU13, okU, ⟨U.tail, rfl⟩, upd_same, ⟨_, _, rfl, hU13, _, _, rfl, ⟨tt, _, rfl, SqT.of h13b, _, _, rfl, Rep.keep (fun b o h _ => S1013 _ _ h) hP10, _, _, rfl, ⟨l', us, rfl, SqT.of h13a, Reps.keep (fun b o h _ => S1013 _ _ h) hR10⟩, rfl⟩, rfl⟩, rfl, (by show 2 ≤ 5; decide), by
      simp only [pszs, psz] at szx szi ⊢
      omega⟩
  refine ⟨vU, l4, _, U, ⟨"main", ["p", "xs"], bMain⟩, _, 200000, n2, v, rfl, st2, ndU, hr2, hn2, (by decide), Nat.le_trans hsm.sz (by decide), Nat.le_trans hsm.dp (by decide), fun H14 r14 dx14 u14 S14 hr14 hu14 => ?_⟩
  have S1014 := S1013.trans S14
  refine ⟨_, rfl, _, _, _, _, _, rfl, hr14, R.cl, R.nKind, rfl, rfl, _, rfl, iteP (by rfl) ?_⟩
  refine ⟨_, rfl, _, _, _, _, _, rfl, hr14, R.cl, R.nValue, rfl, _, rfl, td, _, 1, _, rfl, rfl, SqT.of (S1014 _ _ htd), rfl, eq_read hu14 (Rep.keep (fun b o h _ => S1014 _ _ h) hu) hvok hvok ?_⟩
  rw [decide_eq_true rfl]
  exact k _
end
end Og
/-! The head: facts by names. -/
namespace Og
open PySem PySem.Spec PyProof.Rows L2
/-! ### values of the module that are nested tuples -/
mutual
def repB (K : PySem.W.Frag) : PV → Value → Bool
  | .w x, .str y _ => decide (x = y)
  | .l xs, .ref a => (match K.lookup a with
    | some ⟨.type c, _, .seq its _, _⟩ => decide (c = "tuple") && (decide (its.size ≤ sizeLine) && repsB K xs its.toList)
    | _ => false)
  | _, _ => false
def repsB (K : PySem.W.Frag) : List PV → List Value → Bool
  | [], [] => true
  | x :: xs, u :: us => repB K x u && repsB K xs us
  | _, _ => false
end
mutual
theorem repB_ok {K : PySem.W.Frag} {H : Hp} : ∀ {x : PV} {u : Value}, repB K x u = true → ∃ v, Rep K H x v ∧ RelV v u
  | .w x, u, h => by
    cases u with
    | str y t =>
      rw [repB] at h
      have e := of_decide_eq_true h
      subst e
      exact ⟨.str x, rfl, t, rfl⟩
    | _ => simp [repB] at h
  | .l xs, u, h => by
    cases u with
    | ref a =>
      rw [repB] at h
      cases q : K.lookup a with
      | none => rw [q] at h; cases h
      | some o =>
        obtain ⟨oc, od, dt, osl⟩ := o
        rw [q] at h
        cases oc with
        | type c =>
          cases dt with
          | seq its n =>
            obtain ⟨h1, h2⟩ := He.ba h
            obtain ⟨h3, h4⟩ := He.ba h2
            obtain ⟨vs, r1, r2⟩ := repsB_ok (H := H) h4
            exact ⟨.ref a, ⟨a, vs, rfl, .inr ⟨_, its, n, q, congrArg Value.type (of_decide_eq_true h1), rfl, of_decide_eq_true h3, r2⟩, r1⟩, rfl⟩
          | _ => cases h
        | _ => cases dt <;> cases h
    | _ => simp [repB] at h
theorem repsB_ok {K : PySem.W.Frag} {H : Hp} : ∀ {xs : List PV} {us : List Value}, repsB K xs us = true → ∃ vs, Reps K H xs vs ∧ Vals vs us
  | [], [], _ => ⟨[], rfl, .nil⟩
  | [], _ :: _, h => by simp [repsB] at h
  | _ :: _, [], h => by simp [repsB] at h
  | x :: xs, u :: us, h => by
    rw [repsB] at h
    obtain ⟨h1, h2⟩ := He.ba h
    obtain ⟨v, a1, a2⟩ := repB_ok (H := H) h1
    obtain ⟨vs, b1, b2⟩ := repsB_ok (H := H) h2
    exact ⟨v :: vs, ⟨v, vs, rfl, a1, b1⟩, .cons a2 b2⟩
end
def spW (K : PySem.W.Frag) (a : Addr) : Option (List (Option (Str × Int × Int))) := match K.lookup a with
  | some ⟨.type c, none, .dict es _, sl⟩ => (match decide (c = "dict") && (sl.isEmpty && !(a == sysModules)) with
    | true => some (es.toList.map entW)
    | false => none)
  | _ => none
theorem spW_ok {K : PySem.W.Frag} {w : World} {a : Addr} (h : spW K a = some (entsW w.params specials)) : SpecAt K w a := by
  unfold spW at h
  cases q : K.lookup a with
  | none => rw [q] at h; cases h
  | some o =>
    obtain ⟨oc, od, dt, osl⟩ := o
    rw [q] at h
    cases oc with
    | type c =>
      cases od with
      | none =>
        cases dt with
        | dict es n =>
          have h1 : (match decide (c = "dict") && (osl.isEmpty && !(a == sysModules)) with
            | true => some (es.toList.map entW)
            | false => none) = some (entsW w.params specials) := h
          cases e : decide (c = "dict") && (osl.isEmpty && !(a == sysModules)) with
          | false => rw [e] at h1; cases h1
          | true =>
            rw [e] at h1
            obtain ⟨e1, e2⟩ := He.ba e
            obtain ⟨e3, e4⟩ := He.ba e2
            have e1' := of_decide_eq_true e1
            subst e1'
            have e5 : osl = #[] := by simpa using e3
            subst e5
            exact ⟨⟨es, n, q, Option.some.inj h1⟩, by simpa using e4⟩
        | _ => cases h
      | some b => cases dt <;> cases h
    | _ => cases od <;> cases dt <;> cases h
/-! ### the names -/
def fnL : List He.DefD := [⟨("is_word", none), "is_word", "is_word", defArgs sIsWord, defBody sIsWord, defScope sIsWord, [], []⟩,
  ⟨("has_head", none), "has_head", "has_head", defArgs sHasHead, defBody sHasHead, defScope sHasHead, [], []⟩,
  ⟨("counts_of", none), "counts_of", "counts_of", defArgs sCountsOf, defBody sCountsOf, defScope sCountsOf, [], []⟩,
  ⟨("name_fits", none), "name_fits", "name_fits", defArgs sNameFits, defBody sNameFits, defScope sNameFits, [], []⟩,
  ⟨("parameters_fit", none), "parameters_fit", "parameters_fit", defArgs sParametersFit, defBody sParametersFit, defScope sParametersFit, [], []⟩,
  ⟨("body_fits", none), "body_fits", "body_fits", defArgs sBodyFits, defBody sBodyFits, defScope sBodyFits, [], []⟩,
  ⟨("check_program", none), "check_program", "check_program", defArgs sCheckProgram, defBody sCheckProgram, defScope sCheckProgram, [], []⟩,
  ⟨("inputs_of", none), "inputs_of", "inputs_of", defArgs sInputsOf, defBody sInputsOf, defScope sInputsOf, [], []⟩,
  ⟨("universal", none), "universal", "universal", defArgs sUniversal, defBody sUniversal, defScope sUniversal, [], []⟩,
  ⟨("started", none), "started", "started", defArgs sStarted, defBody sStarted, defScope sStarted, [], []⟩,
  ⟨("run_program", none), "run_program", "run_program", defArgs sRunProgram, defBody sRunProgram, defScope sRunProgram, [], []⟩,
  ⟨("_law_draws", none), "_law_draws", "_law_draws", defArgs sDraws, defBody sDraws, defScope sDraws, [], []⟩,
  ⟨("_law_take", none), "_law_take", "_law_take", defArgs sTake, defBody sTake, defScope sTake, [], []⟩,
  ⟨("_law_value", none), "_law_value", "_law_value", defArgs sValue, defBody sValue, defScope sValue, [], []⟩,
  ⟨("_law_expression", none), "_law_expression", "_law_expression", defArgs sExpr, defBody sExpr, defScope sExpr, [], []⟩,
  ⟨("_law_do", none), "_law_do", "_law_do", defArgs sLDo, defBody sLDo, defScope sLDo, [], []⟩,
  ⟨("_law_run", none), "_law_run", "_law_run", defArgs sLRun, defBody sLRun, defScope sLRun, [], []⟩,
  ⟨("law", none), "law", "law", defArgs sLaw, defBody sLaw, defScope sLaw, [], []⟩,
  ⟨("Store", some "number_of"), "number_of", "Store.number_of", defArgs sNumberOf, defBody sNumberOf, defScope sNumberOf, [], []⟩,
  ⟨("Store", some "is_word"), "is_word", "Store.is_word", defArgs sSIsWord, defBody sSIsWord, defScope sSIsWord, [], []⟩,
  ⟨("Store", some "first"), "first", "Store.first", defArgs sFirst, defBody sFirst, defScope sFirst, [], []⟩,
  ⟨("Store", some "rest"), "rest", "Store.rest", defArgs sRest, defBody sRest, defScope sRest, [], []⟩,
  ⟨("Store", some "pair_up"), "pair_up", "Store.pair_up", defArgs sPairUp, defBody sPairUp, defScope sPairUp, [], []⟩,
  ⟨("Store", some "put"), "put", "Store.put", defArgs sPut, defBody sPut, defScope sPut, [], []⟩,
  ⟨("Store", some "items_of"), "items_of", "Store.items_of", defArgs sItemsOf, defBody sItemsOf, defScope sItemsOf, [], []⟩,
  ⟨("Store", some "value_of"), "value_of", "Store.value_of", defArgs sValueOf, defBody sValueOf, defScope sValueOf, [], []⟩,
  ⟨("Machine", some "begin"), "begin", "Machine.begin", defArgs sBegin, defBody sBegin, defScope sBegin, [], []⟩,
  ⟨("Machine", some "is_done"), "is_done", "Machine.is_done", defArgs sIsDone, defBody sIsDone, defScope sIsDone, [], []⟩,
  ⟨("Machine", some "go_on"), "go_on", "Machine.go_on", defArgs sGoOn, defBody sGoOn, defScope sGoOn, [], []⟩,
  ⟨("Machine", some "evaluate"), "evaluate", "Machine.evaluate", defArgs sEvaluate, defBody sEvaluate, defScope sEvaluate, [], []⟩,
  ⟨("Machine", some "do"), "do", "Machine.do", defArgs sDo, defBody sDo, defScope sDo, [], []⟩,
  ⟨("Machine", some "is_great"), "is_great", "Machine.is_great", defArgs sIsGreat, defBody sIsGreat, defScope sIsGreat, [], []⟩,
  ⟨("Machine", some "result"), "result", "Machine.result", defArgs sResult, defBody sResult, defScope sResult, [], []⟩,
  ⟨("Store", some "__init__"), "__init__", "Store.__init__", defArgs sSInit, defBody sSInit, defScope sSInit, [], []⟩,
  ⟨("Run", some "__init__"), "__init__", "Run.__init__", defArgs sRInit, defBody sRInit, defScope sRInit, [], []⟩,
  ⟨("Machine", some "__init__"), "__init__", "Machine.__init__", defArgs sMInit, defBody sMInit, defScope sMInit, [], [("keeping", .bl false)]⟩]
def faL : List He.Fa := [.glo "is_word", .glo "has_head", .glo "counts_of", .glo "name_fits", .glo "parameters_fit", .glo "body_fits", .glo "check_program", .glo "inputs_of", .glo "universal", .glo "started", .glo "run_program", .glo "_law_draws", .glo "_law_take", .glo "_law_value", .glo "_law_expression", .glo "_law_do", .glo "_law_run", .glo "law", .glo "Store", .glo "Run", .glo "Machine", .glo "SPECIAL_WORDS", .glo "PLAIN", .glo "UNIVERSAL", .free "isinstance", .free "str", .free "len", .free "dict", .free "enumerate", .free "zip", .free "int", .free "abs", .free "min", .free "max", .free "tuple", .free "range", .free "reversed", .int "EMPTY" 0, .int "MOST_PARTS" 200000, .int "MOST_DEPTH" 200, .int "MOST_PARAMETERS" 12, .str "FIGURES" "0123456789", .cls "Store", .cls "Run", .cls "Machine", .noat "Store" "entries", .noat "Store" "numbers", .noat "Store" "sizes", .noat "Store" "depths", .noat "Machine" "store", .noat "Machine" "yes", .noat "Machine" "functions", .noat "Machine" "keeping", .noat "Machine" "kept", .noat "Machine" "pair", .noat "Machine" "steps", .noat "Machine" "found", .noat "Machine" "todo", .noat "Run" "kind", .noat "Run" "value", .noat "Run" "steps", .meth "Store" "number_of", .meth "Store" "is_word", .meth "Store" "first", .meth "Store" "rest", .meth "Store" "pair_up", .meth "Store" "put", .meth "Store" "items_of", .meth "Store" "value_of", .meth "Machine" "begin", .meth "Machine" "is_done", .meth "Machine" "go_on", .meth "Machine" "evaluate", .meth "Machine" "do", .meth "Machine" "is_great", .meth "Machine" "result", .mkr "Store", .mkr "Run", .mkr "Machine"]
abbrev RW : PySem.W.OpenLaw := PySem.Challenge.rw_ownglass_k45_whole_universal_upon_univer
abbrev ROW : PySem.W.OpenRow := PySem.W.OpenLaw.row RW
/-- what hangs below -/
def subs (g : Addr → Option Obj) : Nat → List Addr → List Addr
  | 0, as => as
  | n + 1, as => as ++ subs g n (as.flatMap fun a => match g a with
    | some o => He.refsO o
    | none => [])
def asO (g : Addr → Option Obj) : List Addr := He.asD g 4 ++ subs g 12 [He.ga (He.frG g (He.asD g 4)) "UNIVERSAL"]
abbrev AlO : Type := He.AlD × Bool × Option (List (Option (Str × Int × Int)))
def obsK (K : PySem.W.Frag) : AlO := (He.obsD faL fnL K, (repB K (encP U) (.ref (He.ga K "UNIVERSAL")) && He.tupB K "PLAIN" [.str "same", .str "word", .str "head", .str "tail", .str "join"]), spW K (He.ga K "SPECIAL_WORDS"))
def valO (w : World) : AlO := (He.valD fnL, true, some (entsW w.params specials))
def obsOG (g : Addr → Option Obj) : AlO := obsK (He.frG g (asO g))
def hookO : PySem.W.Hook where
  α := AlO
  obs := fun s => obsOG s.heap.get?
  val := valO
  says := fun w h => ∃ K : PySem.W.Frag, K.In h ∧ obsK K = valO w
  of := fun _ _ e => ⟨_, He.frG_in, e⟩
  keeps := fun _ _ _ ⟨K, hK, c⟩ k => ⟨K, PySem.W.Frag.In.keeps hK k, c⟩
theorem obsOG_eq {g : Addr → Option Obj} {s : Shared} (h : ∀ a, g a = s.heap.get? a) : obsOG g = hookO.obs s := by
  have e : g = s.heap.get? := funext h
  rw [e] <;> rfl
def obO (s : PySem.W.SharedT) : AlO := obsOG (HandSHeadRun.getT s)
theorem obO_eq (s : PySem.W.SharedT) : obO s = hookO.obs s.abs := obsOG_eq (HandSHeadRun.getT_eq s)
def namesO : List Str := ["__name__", "GlassError", "BadProgram", "BadInputs", "SPECIAL_WORDS", "FIGURES", "MOST_PARAMETERS", "is_word", "has_head", "counts_of", "name_fits", "parameters_fit", "body_fits", "check_program", "inputs_of", "UNIVERSAL", "universal", "EMPTY", "MOST_PARTS", "MOST_DEPTH", "Store", "PLAIN", "Run", "Machine", "started", "run_program", "_law_draws", "_law_take", "_law_value", "_law_expression", "_law_do", "_law_run"]
theorem runO (w : World) : HandSHeadRun.RunEq ROW (PySem.W.view ROW.prog [37]) hookO obO 4000 namesO w :=
  PySem.W.byRow2 (P := fun w => HandSHeadRun.RunEq ROW (PySem.W.view ROW.prog [37]) hookO obO 4000 namesO w) "special-get-raises" (fun w => by intro os; kernel_rfl) (fun w => by intro os; kernel_rfl) w
end Og
/-! The assembly. -/
namespace Og
open PySem PySem.Spec PyProof.Rows L2
theorem facts {P : Program} {w : World} {K : PySem.W.Frag} {h : Heap} {mg : Str → Option Value} {f : Addr} (X : K.In h) (G : h.Ns mainGlobals mg) (hfa : mg ("law" : Str) = some (.ref f)) (cc : obsK K = valO w) :
    ∃ fd : FuncData, (∀ (s : Shared) (v : Value), BindsTo s fd ⟨[v], []⟩ [("_law_script", v)]) ∧ ∀ base : Heap, K.In base → base.Ns mainGlobals mg → FnOk P w K mg base CX0 8 f fd ["_law_script"] (spLaw K) := by
  have c : He.SaysD faL fnL K := congrArg (fun z : AlO => z.1) cc
  have cU := congrArg (fun z : AlO => z.2.1) cc
  have cS := congrArg (fun z : AlO => z.2.2) cc
  obtain ⟨cU, cP⟩ := He.ba cU
  have g_is_word : GDef K mg "is_word" sIsWord [] := by
    obtain ⟨fd, F⟩ := c.def_ 0 rfl
    exact ⟨_, fd, F, He.glo_ok X G (c.fact 0 (f := .glo "is_word") rfl)⟩
  have g_has_head : GDef K mg "has_head" sHasHead [] := by
    obtain ⟨fd, F⟩ := c.def_ 1 rfl
    exact ⟨_, fd, F, He.glo_ok X G (c.fact 1 (f := .glo "has_head") rfl)⟩
  have g_counts_of : GDef K mg "counts_of" sCountsOf [] := by
    obtain ⟨fd, F⟩ := c.def_ 2 rfl
    exact ⟨_, fd, F, He.glo_ok X G (c.fact 2 (f := .glo "counts_of") rfl)⟩
  have g_name_fits : GDef K mg "name_fits" sNameFits [] := by
    obtain ⟨fd, F⟩ := c.def_ 3 rfl
    exact ⟨_, fd, F, He.glo_ok X G (c.fact 3 (f := .glo "name_fits") rfl)⟩
  have g_parameters_fit : GDef K mg "parameters_fit" sParametersFit [] := by
    obtain ⟨fd, F⟩ := c.def_ 4 rfl
    exact ⟨_, fd, F, He.glo_ok X G (c.fact 4 (f := .glo "parameters_fit") rfl)⟩
  have g_body_fits : GDef K mg "body_fits" sBodyFits [] := by
    obtain ⟨fd, F⟩ := c.def_ 5 rfl
    exact ⟨_, fd, F, He.glo_ok X G (c.fact 5 (f := .glo "body_fits") rfl)⟩
  have g_check_program : GDef K mg "check_program" sCheckProgram [] := by
    obtain ⟨fd, F⟩ := c.def_ 6 rfl
    exact ⟨_, fd, F, He.glo_ok X G (c.fact 6 (f := .glo "check_program") rfl)⟩
  have g_inputs_of : GDef K mg "inputs_of" sInputsOf [] := by
    obtain ⟨fd, F⟩ := c.def_ 7 rfl
    exact ⟨_, fd, F, He.glo_ok X G (c.fact 7 (f := .glo "inputs_of") rfl)⟩
  have g_universal : GDef K mg "universal" sUniversal [] := by
    obtain ⟨fd, F⟩ := c.def_ 8 rfl
    exact ⟨_, fd, F, He.glo_ok X G (c.fact 8 (f := .glo "universal") rfl)⟩
  have g_started : GDef K mg "started" sStarted [] := by
    obtain ⟨fd, F⟩ := c.def_ 9 rfl
    exact ⟨_, fd, F, He.glo_ok X G (c.fact 9 (f := .glo "started") rfl)⟩
  have g_run_program : GDef K mg "run_program" sRunProgram [] := by
    obtain ⟨fd, F⟩ := c.def_ 10 rfl
    exact ⟨_, fd, F, He.glo_ok X G (c.fact 10 (f := .glo "run_program") rfl)⟩
  have g__law_draws : GDef K mg "_law_draws" sDraws [] := by
    obtain ⟨fd, F⟩ := c.def_ 11 rfl
    exact ⟨_, fd, F, He.glo_ok X G (c.fact 11 (f := .glo "_law_draws") rfl)⟩
  have g__law_take : GDef K mg "_law_take" sTake [] := by
    obtain ⟨fd, F⟩ := c.def_ 12 rfl
    exact ⟨_, fd, F, He.glo_ok X G (c.fact 12 (f := .glo "_law_take") rfl)⟩
  have g__law_value : GDef K mg "_law_value" sValue [] := by
    obtain ⟨fd, F⟩ := c.def_ 13 rfl
    exact ⟨_, fd, F, He.glo_ok X G (c.fact 13 (f := .glo "_law_value") rfl)⟩
  have g__law_expression : GDef K mg "_law_expression" sExpr [] := by
    obtain ⟨fd, F⟩ := c.def_ 14 rfl
    exact ⟨_, fd, F, He.glo_ok X G (c.fact 14 (f := .glo "_law_expression") rfl)⟩
  have g__law_do : GDef K mg "_law_do" sLDo [] := by
    obtain ⟨fd, F⟩ := c.def_ 15 rfl
    exact ⟨_, fd, F, He.glo_ok X G (c.fact 15 (f := .glo "_law_do") rfl)⟩
  have g__law_run : GDef K mg "_law_run" sLRun [] := by
    obtain ⟨fd, F⟩ := c.def_ 16 rfl
    exact ⟨_, fd, F, He.glo_ok X G (c.fact 16 (f := .glo "_law_run") rfl)⟩
  have m_Store_number_of : MDef K (He.ga K "Store") "number_of" "Store.number_of" sNumberOf [] := by
    obtain ⟨fd, F⟩ := c.def_ 18 rfl
    exact ⟨He.cls_ok (c.fact 42 (f := .cls "Store") rfl), _, fd, F, He.meth_ok (c.fact 61 (f := .meth "Store" "number_of") rfl)⟩
  have m_Store_is_word : MDef K (He.ga K "Store") "is_word" "Store.is_word" sSIsWord [] := by
    obtain ⟨fd, F⟩ := c.def_ 19 rfl
    exact ⟨He.cls_ok (c.fact 42 (f := .cls "Store") rfl), _, fd, F, He.meth_ok (c.fact 62 (f := .meth "Store" "is_word") rfl)⟩
  have m_Store_first : MDef K (He.ga K "Store") "first" "Store.first" sFirst [] := by
    obtain ⟨fd, F⟩ := c.def_ 20 rfl
    exact ⟨He.cls_ok (c.fact 42 (f := .cls "Store") rfl), _, fd, F, He.meth_ok (c.fact 63 (f := .meth "Store" "first") rfl)⟩
  have m_Store_rest : MDef K (He.ga K "Store") "rest" "Store.rest" sRest [] := by
    obtain ⟨fd, F⟩ := c.def_ 21 rfl
    exact ⟨He.cls_ok (c.fact 42 (f := .cls "Store") rfl), _, fd, F, He.meth_ok (c.fact 64 (f := .meth "Store" "rest") rfl)⟩
  have m_Store_pair_up : MDef K (He.ga K "Store") "pair_up" "Store.pair_up" sPairUp [] := by
    obtain ⟨fd, F⟩ := c.def_ 22 rfl
    exact ⟨He.cls_ok (c.fact 42 (f := .cls "Store") rfl), _, fd, F, He.meth_ok (c.fact 65 (f := .meth "Store" "pair_up") rfl)⟩
  have m_Store_put : MDef K (He.ga K "Store") "put" "Store.put" sPut [] := by
    obtain ⟨fd, F⟩ := c.def_ 23 rfl
    exact ⟨He.cls_ok (c.fact 42 (f := .cls "Store") rfl), _, fd, F, He.meth_ok (c.fact 66 (f := .meth "Store" "put") rfl)⟩
  have m_Store_items_of : MDef K (He.ga K "Store") "items_of" "Store.items_of" sItemsOf [] := by
    obtain ⟨fd, F⟩ := c.def_ 24 rfl
    exact ⟨He.cls_ok (c.fact 42 (f := .cls "Store") rfl), _, fd, F, He.meth_ok (c.fact 67 (f := .meth "Store" "items_of") rfl)⟩
  have m_Store_value_of : MDef K (He.ga K "Store") "value_of" "Store.value_of" sValueOf [] := by
    obtain ⟨fd, F⟩ := c.def_ 25 rfl
    exact ⟨He.cls_ok (c.fact 42 (f := .cls "Store") rfl), _, fd, F, He.meth_ok (c.fact 68 (f := .meth "Store" "value_of") rfl)⟩
  have m_Machine_begin : MDef K (He.ga K "Machine") "begin" "Machine.begin" sBegin [] := by
    obtain ⟨fd, F⟩ := c.def_ 26 rfl
    exact ⟨He.cls_ok (c.fact 44 (f := .cls "Machine") rfl), _, fd, F, He.meth_ok (c.fact 69 (f := .meth "Machine" "begin") rfl)⟩
  have m_Machine_is_done : MDef K (He.ga K "Machine") "is_done" "Machine.is_done" sIsDone [] := by
    obtain ⟨fd, F⟩ := c.def_ 27 rfl
    exact ⟨He.cls_ok (c.fact 44 (f := .cls "Machine") rfl), _, fd, F, He.meth_ok (c.fact 70 (f := .meth "Machine" "is_done") rfl)⟩
  have m_Machine_go_on : MDef K (He.ga K "Machine") "go_on" "Machine.go_on" sGoOn [] := by
    obtain ⟨fd, F⟩ := c.def_ 28 rfl
    exact ⟨He.cls_ok (c.fact 44 (f := .cls "Machine") rfl), _, fd, F, He.meth_ok (c.fact 71 (f := .meth "Machine" "go_on") rfl)⟩
  have m_Machine_evaluate : MDef K (He.ga K "Machine") "evaluate" "Machine.evaluate" sEvaluate [] := by
    obtain ⟨fd, F⟩ := c.def_ 29 rfl
    exact ⟨He.cls_ok (c.fact 44 (f := .cls "Machine") rfl), _, fd, F, He.meth_ok (c.fact 72 (f := .meth "Machine" "evaluate") rfl)⟩
  have m_Machine_do : MDef K (He.ga K "Machine") "do" "Machine.do" sDo [] := by
    obtain ⟨fd, F⟩ := c.def_ 30 rfl
    exact ⟨He.cls_ok (c.fact 44 (f := .cls "Machine") rfl), _, fd, F, He.meth_ok (c.fact 73 (f := .meth "Machine" "do") rfl)⟩
  have m_Machine_is_great : MDef K (He.ga K "Machine") "is_great" "Machine.is_great" sIsGreat [] := by
    obtain ⟨fd, F⟩ := c.def_ 31 rfl
    exact ⟨He.cls_ok (c.fact 44 (f := .cls "Machine") rfl), _, fd, F, He.meth_ok (c.fact 74 (f := .meth "Machine" "is_great") rfl)⟩
  have m_Machine_result : MDef K (He.ga K "Machine") "result" "Machine.result" sResult [] := by
    obtain ⟨fd, F⟩ := c.def_ 32 rfl
    exact ⟨He.cls_ok (c.fact 44 (f := .cls "Machine") rfl), _, fd, F, He.meth_ok (c.fact 75 (f := .meth "Machine" "result") rfl)⟩
  have k_Store : CDef K mg "Store" (He.ga K "Store") "Store.__init__" sSInit [] := by
    obtain ⟨fd, F⟩ := c.def_ 33 rfl
    exact ⟨He.glo_ok X G (c.fact 18 (f := .glo "Store") rfl), _, fd, F, He.mkr_ok (c.fact 76 (f := .mkr "Store") rfl)⟩
  have k_Run : CDef K mg "Run" (He.ga K "Run") "Run.__init__" sRInit [] := by
    obtain ⟨fd, F⟩ := c.def_ 34 rfl
    exact ⟨He.glo_ok X G (c.fact 19 (f := .glo "Run") rfl), _, fd, F, He.mkr_ok (c.fact 77 (f := .mkr "Run") rfl)⟩
  have k_Machine : CDef K mg "Machine" (He.ga K "Machine") "Machine.__init__" sMInit [("keeping", .bl false)] := by
    obtain ⟨fd, F⟩ := c.def_ 35 rfl
    exact ⟨He.glo_ok X G (c.fact 20 (f := .glo "Machine") rfl), _, fd, F, He.mkr_ok (c.fact 78 (f := .mkr "Machine") rfl)⟩
  have B : Blt mg := ⟨He.free_ok X G (c.fact 24 (f := .free "isinstance") rfl), He.free_ok X G (c.fact 25 (f := .free "str") rfl), He.free_ok X G (c.fact 26 (f := .free "len") rfl), He.free_ok X G (c.fact 27 (f := .free "dict") rfl), He.free_ok X G (c.fact 28 (f := .free "enumerate") rfl), He.free_ok X G (c.fact 29 (f := .free "zip") rfl), He.free_ok X G (c.fact 30 (f := .free "int") rfl), He.free_ok X G (c.fact 31 (f := .free "abs") rfl), He.free_ok X G (c.fact 32 (f := .free "min") rfl), He.free_ok X G (c.fact 33 (f := .free "max") rfl), He.free_ok X G (c.fact 34 (f := .free "tuple") rfl), He.free_ok X G (c.fact 35 (f := .free "range") rfl), He.free_ok X G (c.fact 36 (f := .free "reversed") rfl)⟩
  have N : Nums mg := ⟨He.int_ok X G (c.fact 37 (f := .int "EMPTY" 0) rfl), He.int_ok X G (c.fact 38 (f := .int "MOST_PARTS" 200000) rfl), He.int_ok X G (c.fact 39 (f := .int "MOST_DEPTH" 200) rfl)⟩
  have hMP := He.int_ok X G (c.fact 40 (f := .int "MOST_PARAMETERS" 12) rfl)
  have hFig : ∃ u, mg "FIGURES" = some u ∧ RelV (.str "0123456789") u := by
    obtain ⟨t, e⟩ := He.str_ok X G (c.fact 41 (f := .str "FIGURES" "0123456789") rfl)
    exact ⟨_, e, t, rfl⟩
  have S : SCl K (He.ga K "Store") := ⟨He.cls_ok (c.fact 42 (f := .cls "Store") rfl), He.noat_ok (c.fact 45 (f := .noat "Store" "entries") rfl), He.noat_ok (c.fact 46 (f := .noat "Store" "numbers") rfl), He.noat_ok (c.fact 47 (f := .noat "Store" "sizes") rfl), He.noat_ok (c.fact 48 (f := .noat "Store" "depths") rfl)⟩
  have T : MCl K (He.ga K "Machine") := ⟨He.cls_ok (c.fact 44 (f := .cls "Machine") rfl), He.noat_ok (c.fact 49 (f := .noat "Machine" "store") rfl), He.noat_ok (c.fact 50 (f := .noat "Machine" "yes") rfl), He.noat_ok (c.fact 51 (f := .noat "Machine" "functions") rfl), He.noat_ok (c.fact 52 (f := .noat "Machine" "keeping") rfl), He.noat_ok (c.fact 53 (f := .noat "Machine" "kept") rfl), He.noat_ok (c.fact 54 (f := .noat "Machine" "pair") rfl), He.noat_ok (c.fact 55 (f := .noat "Machine" "steps") rfl), He.noat_ok (c.fact 56 (f := .noat "Machine" "found") rfl), He.noat_ok (c.fact 57 (f := .noat "Machine" "todo") rfl)⟩
  have RC : RCl K (He.ga K "Run") := ⟨He.cls_ok (c.fact 43 (f := .cls "Run") rfl), He.noat_ok (c.fact 58 (f := .noat "Run" "kind") rfl), He.noat_ok (c.fact 59 (f := .noat "Run" "value") rfl), He.noat_ok (c.fact 60 (f := .noat "Run" "steps") rfl)⟩
  have SG : SpecG K w mg (He.ga K "SPECIAL_WORDS") := ⟨⟨_, He.glo_ok X G (c.fact 21 (f := .glo "SPECIAL_WORDS") rfl), rfl⟩, spW_ok cS⟩
  have PL : PlainAt K mg (He.ga K "PLAIN") := ⟨⟨_, He.glo_ok X G (c.fact 22 (f := .glo "PLAIN") rfl), rfl⟩, fun H => He.tupB_ok cP H⟩
  have UG : UnivG K mg (He.ga K "UNIVERSAL") := ⟨⟨_, He.glo_ok X G (c.fact 23 (f := .glo "UNIVERSAL") rfl), rfl⟩, fun H => by
    obtain ⟨v, h1, h2⟩ := repB_ok (H := H) cU
    obtain ⟨a, vs, rfl, h3⟩ := h1
    cases h2
    exact ⟨_, vs, rfl, h3⟩⟩
  obtain ⟨fd, FL⟩ := c.def_ 17 rfl
  have e := hfa.symm.trans (He.glo_ok X G (c.fact 17 (f := .glo "law") rfl))
  cases e
  have b := FunD.bindsA (ps := ["_law_script"]) FL fun _ _ _ _ _ _ us hl => match us, hl with | [_], _ => rfl
  refine ⟨fd, fun s v => b s [v] rfl, fun base _ _ => ?_⟩
  -- the store
  have c_s_is_word := ok_s_is_word (P := P) (w := w) (base := base) B S m_Store_is_word
  have c_number_of := ok_number_of (P := P) (w := w) (base := base) B N S m_Store_number_of
  have c_first := ok_first (P := P) (w := w) (base := base) N S c_s_is_word m_Store_first
  have c_rest := ok_rest (P := P) (w := w) (base := base) N S c_s_is_word m_Store_rest
  have c_pair_up := ok_pair_up (P := P) (w := w) (base := base) N S c_s_is_word c_number_of m_Store_pair_up
  have c_put := ok_put (P := P) (w := w) (base := base) B N S c_number_of m_Store_put
  have c_items_of := ok_items_of (P := P) (w := w) (base := base) N S m_Store_items_of
  have c_value_of := ok_value_of (P := P) (w := w) (base := base) B N S c_s_is_word c_items_of m_Store_value_of
  have c_Store := ok_s_init (P := P) (w := w) (mg := mg) (base := base) S k_Store
  -- the machine
  have c_begin := ok_begin (P := P) (w := w) (base := base) (CS := He.ga K "Store") B T m_Machine_begin
  have c_do := ok_do (P := P) (w := w) (base := base) B N S T c_s_is_word c_first c_rest c_pair_up m_Machine_do
  have c_evaluate := ok_evaluate (P := P) (w := w) (base := base) B S T PL c_s_is_word c_items_of m_Machine_evaluate
  have c_go_on := ok_go_on (P := P) (w := w) (base := base) B N T c_evaluate c_do c_begin m_Machine_go_on
  have c_is_done := ok_is_done (P := P) (w := w) (base := base) (CS := He.ga K "Store") B T m_Machine_is_done
  have c_is_great := ok_is_great (P := P) (w := w) (base := base) N S T m_Machine_is_great
  have c_result := ok_result (P := P) (w := w) (base := base) T c_value_of m_Machine_result
  have c_Machine := mak_machine (P := P) (w := w) (base := base) k_Machine (body_minit B T c_Store c_put c_items_of c_begin)
  have c_Run := ok_r_init (P := P) (w := w) (mg := mg) (base := base) RC k_Run
  -- the programs
  have c_is_word := ok_is_word (P := P) (w := w) (base := base) B g_is_word
  have c_has_head := ok_has_head (P := P) (w := w) (base := base) B c_is_word g_has_head
  have c_counts_of := ok_counts_of (P := P) (base := base) B SG c_has_head g_counts_of
  have c_name_fits := ok_name_fits (P := P) (base := base) B SG hFig g_name_fits
  have c_parameters_fit := ok_parameters_fit (P := P) (base := base) B SG hMP c_is_word g_parameters_fit
  have c_body_fits := ok_body_fits (P := P) (w := w) (base := base) B c_is_word g_body_fits
  have c_check_program := ok_check_program (P := P) (w := w) (base := base) B c_is_word c_has_head c_counts_of c_name_fits c_parameters_fit c_body_fits g_check_program
  have c_inputs_of := ok_inputs_of (P := P) (w := w) (base := base) B c_check_program g_inputs_of
  have c_universal := ok_universal (P := P) (w := w) (base := base) UG g_universal
  have c_started := ok_started (P := P) (w := w) (base := base) B c_check_program c_inputs_of c_Machine g_started
  have c_run_program := ok_run_program (P := P) (w := w) (base := base) T c_started c_go_on c_is_done c_is_great c_result c_Run g_run_program
  -- the law
  have l_draws := ok_draws (P := P) (w := w) (base := base) B g__law_draws
  have l_take := ok_take (P := P) (w := w) (K := K) (base := base) B g__law_take
  have l_value0 := ok_value0 (P := P) (w := w) (base := base) B l_take g__law_value
  have l_value1 := ok_valueS (P := P) (w := w) (base := base) 0 (by decide) B l_take l_value0 g__law_value
  have l_value2 := ok_valueS (P := P) (w := w) (base := base) 1 (by decide) B l_take l_value1 g__law_value
  have l_expr0 := ok_expr0 (P := P) (w := w) (base := base) B l_take l_value2 g__law_expression
  have l_expr1 := ok_expr1 (P := P) (w := w) (base := base) B l_take l_value2 l_expr0 g__law_expression
  have l_do := ok_ldo (P := P) (w := w) (base := base) B g__law_do
  have l_run := ok_lrun (P := P) (w := w) (base := base) B l_do g__law_run
  exact ok_law B RC l_draws l_take l_value1 l_expr1 l_run c_universal c_run_program FL
end Og
open PySem PySem.W PySem.Calls PyProof.Rows
theorem PySem.Challenge.cw_ownglass_k45_whole_universal_upon_univer_holds : PySem.Challenge.rw_ownglass_k45_whole_universal_upon_univer.Holds := by
  w_on; o_law
  refine HandSHeadRun.head_any (r := OpenLaw.row PySem.Challenge.rw_ownglass_k45_whole_universal_upon_univer) (q := view (OpenLaw.row PySem.Challenge.rw_ownglass_k45_whole_universal_upon_univer).prog [37]) (H := Og.hookO) (ob := Og.obO) (M := 4000) (loose := Og.namesO) (d := HandSHeadRun.topDef (OpenLaw.row PySem.Challenge.rw_ownglass_k45_whole_universal_upon_univer).prog 37) (kwd := []) Og.obO_eq
    (by kernel_rfl) (fun s => by kernel_rfl) Og.runO (by kernel_rfl) (by kernel_rfl) (by kernel_rfl) (by rfl) (by first | assumption | decide +kernel) (by decide +kernel) ⟨rfl, rfl, rfl, rfl, rfl, by decide +kernel⟩ ?hw ?hc
  case hw => w_witness2
  case hc =>
    refine L2.walk_ofE (l := PySem.Challenge.rw_ownglass_k45_whole_universal_upon_univer) (n := 63) (k := 8) (x := "_law_script") (CX := L2.CX0) rfl (by decide) (by kernel_rfl) ⟨rfl, by decide, by decide⟩ ?F (fun _ _ _ _ z => z)
    intro w mg fa h Y G hmg0
    obtain ⟨K, KX, c⟩ := Y
    have hmg : mg ("law" : PySem.Str) = some (.ref fa) := by
      have e : (HandSHeadRun.topDef (OpenLaw.row PySem.Challenge.rw_ownglass_k45_whole_universal_upon_univer).prog 37).name = ("law" : PySem.Str) := by kernel_rfl
      rw [← e]
      exact hmg0
    obtain ⟨fd, hb, hF⟩ := Og.facts (P := (PySem.Challenge.rw_ownglass_k45_whole_universal_upon_univer).prog) (w := w) KX G hmg c
    exact ⟨K, fd, Og.spLaw K, KX, hb, fun H a ns hl _ hS => ⟨a, ns, rfl, hS, Nat.le_trans hl (by decide), fun _ => rfl⟩, hF⟩
