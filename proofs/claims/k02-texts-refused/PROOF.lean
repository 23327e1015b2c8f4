import PyProof.Rows.All
import PySem.Unicode
import Wide.All
import OpenK.AllK
import Wide.FinOn
import KE.KExcSuper
import KE.KSuper
import HandS.ForExc
import HandS.ExcField
import HandS.ExcIs
import KE.KExcIs
import HandS.ForMost
import HandS.Defaults
import PySem.Challenge.RW_askedfor_k02_texts_that_are_refused
import HandS.More
import HandS.WrittenGet
import HandS.Text
import KE.IntTextLaws
import HandS.Codes
import HandS.Wide
import PyProof.StrOps2
set_option Elab.async false
set_option linter.all false
set_option maxRecDepth 100000
set_option maxHeartbeats 40000000
/-! Ma: the mirror: a tokenizer and a parser as plain functions on code points, with fuel. -/
namespace Afd
abbrev Cs := List Nat
abbrev wAsk : Cs := [97, 115, 107]
abbrev wBool : Cs := [98, 111, 111, 108]
abbrev wEffect : Cs := [101, 102, 102, 101, 99, 116]
abbrev wElse : Cs := [101, 108, 115, 101]
abbrev wFalse : Cs := [102, 97, 108, 115, 101]
abbrev wFst : Cs := [102, 115, 116]
abbrev wFun : Cs := [102, 117, 110]
abbrev wHandle : Cs := [104, 97, 110, 100, 108, 101]
abbrev wIf : Cs := [105, 102]
abbrev wIn : Cs := [105, 110]
abbrev wInt : Cs := [105, 110, 116]
abbrev wLet : Cs := [108, 101, 116]
abbrev wNot : Cs := [110, 111, 116]
abbrev wPrint : Cs := [112, 114, 105, 110, 116]
abbrev wRec : Cs := [114, 101, 99]
abbrev wReturn : Cs := [114, 101, 116, 117, 114, 110]
abbrev wSnd : Cs := [115, 110, 100]
abbrev wThen : Cs := [116, 104, 101, 110]
abbrev wTrue : Cs := [116, 114, 117, 101]
abbrev wUnit : Cs := [117, 110, 105, 116]
def words : List Cs := [wAsk, wBool, wEffect, wElse, wFalse, wFst, wFun, wHandle, wIf, wIn, wInt, wLet, wNot, wPrint, wRec, wReturn, wSnd, wThen, wTrue, wUnit]
abbrev sFat : Cs := [61, 62]
abbrev sArr : Cs := [45, 62]
abbrev sEqq : Cs := [61, 61]
abbrev sLp : Cs := [40]
abbrev sRp : Cs := [41]
abbrev sLb : Cs := [123]
abbrev sRb : Cs := [125]
abbrev sCom : Cs := [44]
abbrev sCol : Cs := [58]
abbrev sSem : Cs := [59]
abbrev sBar : Cs := [124]
abbrev sEq : Cs := [61]
abbrev sPls : Cs := [43]
abbrev sMin : Cs := [45]
abbrev sStr : Cs := [42]
abbrev sLt : Cs := [60]
def isLet (c : Nat) : Bool := decide (97 ≤ c) && decide (c ≤ 122)
def isDig (c : Nat) : Bool := decide (48 ≤ c) && decide (c ≤ 57)
def isNm (c : Nat) : Bool := isLet c || isDig c || c == 95
def isSp (c : Nat) : Bool := c == 32 || c == 10
def isAl (c : Nat) : Bool := if c < 128 then (decide (65 ≤ c) && decide (c ≤ 90)) || isLet c else PySem.Unicode.isAlpha c
def longs : List Cs := [sFat, sArr, sEqq]
def signs : Cs := [40, 41, 123, 125, 44, 58, 59, 124, 61, 43, 45, 42, 60]

inductive TK where
  | word | name | num | sign
  deriving DecidableEq
structure Tk where
  k : TK
  s : Cs
  n : Nat
  p : Nat
  deriving DecidableEq
inductive Er where
  | mal (p : Nat) | dep | txt
  deriving DecidableEq
inductive Out (α : Type) where
  | no | bad (e : Er) | ok (a : α)
  deriving DecidableEq
def Out.bind {α β : Type} : Out α → (α → Out β) → Out β
  | .no, _ => .no
  | .bad e, _ => .bad e
  | .ok a, f => f a
def dv (cs : Cs) : Nat := cs.foldl (fun a c => a * 10 + (c - 48)) 0
def badNext : Cs → Bool
  | [] => false
  | c :: _ => isAl c || c == 95
def numAt (ds rest : Cs) (p : Nat) : Out (Tk × Nat) :=
  if 10 < ds.length ∨ (ds.head? = some 48 ∧ 1 < ds.length) then .bad (.mal p)
  else if badNext rest = true then .bad (.mal p)
  else if 2147483648 ≤ dv ds then .bad (.mal p)
  else .ok (⟨.num, [], dv ds, p⟩, ds.length)
def wordAt (w : Cs) (p : Nat) : Out (Tk × Nat) :=
  if words.contains w = true then .ok (⟨.word, w, 0, p⟩, w.length)
  else if 20 < w.length then .bad (.mal p)
  else .ok (⟨.name, w, 0, p⟩, w.length)
/-- the token at the head of a text that is not empty and does not begin with a space -/
def tokenAt (c : Nat) (cs : Cs) (p : Nat) : Out (Tk × Nat) :=
  if isLet c = true then wordAt ((c :: cs).takeWhile isNm) p
  else if isDig c = true then numAt ((c :: cs).takeWhile isDig) ((c :: cs).dropWhile isDig) p
  else if longs.contains ((c :: cs).take 2) = true then .ok (⟨.sign, (c :: cs).take 2, 0, p⟩, 2)
  else if signs.contains c = true then .ok (⟨.sign, [c], 0, p⟩, 1)
  else .bad (.mal p)
def toks : Nat → Cs → Nat → Out (List Tk)
  | 0, _, _ => .no
  | _ + 1, [], _ => .ok []
  | g + 1, c :: cs, p => if isSp c = true then toks g cs (p + 1)
    else (tokenAt c cs p).bind fun x => (toks g ((c :: cs).drop x.2) (p + x.2)).bind fun ts => .ok (x.1 :: ts)

/-! ### the parser -/
def fail {β : Type} (sz : Nat) : List Tk → Out β
  | [] => .bad (.mal sz)
  | t :: _ => .bad (.mal t.p)
def sees (v : Cs) : List Tk → Bool
  | [] => false
  | t :: _ => (decide (t.k = .word) || decide (t.k = .sign)) && decide (t.s = v)
def skip {β : Type} (sz : Nat) (v : Cs) (r : List Tk) (f : List Tk → Out β) : Out β := if sees v r = true then f r.tail else fail sz r
def isK (k : TK) : List Tk → Bool
  | [] => false
  | t :: _ => decide (t.k = k)
def take {β : Type} (sz : Nat) (k : TK) (r : List Tk) (f : List Tk → Out β) : Out β := if isK k r = true then f r.tail else fail sz r
def lim (n : Nat) (r : List Tk) : Out (Nat × List Tk) := if 60 < n then .bad .dep else .ok (n, r)
def begA : List Tk → Bool
  | [] => false
  | t :: _ => match t.k with
    | .word => decide (t.s = wTrue) || decide (t.s = wFalse) || decide (t.s = wUnit)
    | .sign => decide (t.s = sLp)
    | _ => true
def ent {β : Type} (d : Nat) (f : Nat → Out β) : Out β := match d with
  | 0 => .bad .dep
  | d + 1 => f d
inductive NT where
  | ty | expr | choice | handler | handL (n : Nat) | cmp | add | addL (n : Nat) | mul | mulL (n : Nat) | pre | preL (n : Nat) | atom
  deriving DecidableEq
def P (sz : Nat) : Nat → NT → Nat → List Tk → Out (Nat × List Tk)
  | 0, _, _, _ => .no
  | g + 1, .ty, d, r => ent d fun d =>
    if (sees wInt r || sees wBool r || sees wUnit r) = true then .ok (1, r.tail)
    else skip sz sLp r fun r => (P sz g .ty d r).bind fun x => skip sz sCom x.2 fun r => (P sz g .ty d r).bind fun y => skip sz sRp y.2 fun r => lim (1 + max x.1 y.1) r
  | g + 1, .expr, d, r => ent d fun d =>
    if sees wFun r = true then take sz .name r.tail fun r => skip sz sFat r fun r => (P sz g .expr d r).bind fun x => lim (1 + x.1) x.2
    else if sees wRec r = true then take sz .name r.tail fun r => take sz .name r fun r => skip sz sFat r fun r => (P sz g .expr d r).bind fun x => lim (1 + x.1) x.2
    else if sees wLet r = true then take sz .name r.tail fun r => skip sz sEq r fun r => (P sz g .expr d r).bind fun x => skip sz wIn x.2 fun r => (P sz g .expr d r).bind fun y => lim (1 + max x.1 y.1) y.2
    else if sees wPrint r = true then (P sz g .add d r.tail).bind fun x => skip sz sSem x.2 fun r => (P sz g .expr d r).bind fun y => lim (1 + max x.1 y.1) y.2
    else if sees wIf r = true then P sz g .choice d r.tail
    else if sees wHandle r = true then P sz g .handler d r.tail
    else P sz g .cmp d r
  | g + 1, .choice, d, r => (P sz g .expr d r).bind fun x => skip sz wThen x.2 fun r => (P sz g .expr d r).bind fun y => skip sz wElse y.2 fun r => (P sz g .expr d r).bind fun z => lim (1 + max x.1 (max y.1 z.1)) z.2
  | g + 1, .handler, d, r => (P sz g .expr d r).bind fun x => skip sz sLb x.2 fun r => skip sz wReturn r fun r => take sz .name r fun r => skip sz sFat r fun r => (P sz g .expr d r).bind fun y => P sz g (.handL (max x.1 y.1)) d y.2
  | g + 1, .handL n, d, r =>
    if sees sBar r = true then take sz .name r.tail fun r => take sz .name r fun r => take sz .name r fun r => skip sz sFat r fun r => (P sz g .expr d r).bind fun x => P sz g (.handL (max n x.1)) d x.2
    else skip sz sRb r fun r => lim (n + 1) r
  | g + 1, .cmp, d, r => (P sz g .add d r).bind fun x =>
    if (sees sLt x.2 || sees sEqq x.2) = true then (P sz g .add d x.2.tail).bind fun y => lim (1 + max x.1 y.1) y.2 else .ok x
  | g + 1, .add, d, r => (P sz g .mul d r).bind fun x => P sz g (.addL x.1) d x.2
  | g + 1, .addL n, d, r =>
    if (sees sPls r || sees sMin r) = true then (P sz g .mul d r.tail).bind fun y => (lim (1 + max n y.1) y.2).bind fun z => P sz g (.addL z.1) d z.2 else .ok (n, r)
  | g + 1, .mul, d, r => (P sz g .pre d r).bind fun x => P sz g (.mulL x.1) d x.2
  | g + 1, .mulL n, d, r =>
    if sees sStr r = true then (P sz g .pre d r.tail).bind fun y => (lim (1 + max n y.1) y.2).bind fun z => P sz g (.mulL z.1) d z.2 else .ok (n, r)
  | g + 1, .pre, d, r => ent d fun d =>
    if (sees wFst r || sees wSnd r || sees wNot r) = true then (P sz g .pre d r.tail).bind fun x => lim (1 + x.1) x.2
    else if sees wAsk r = true then take sz .name r.tail fun r => (P sz g .pre d r).bind fun x => lim (1 + x.1) x.2
    else (P sz g .atom d r).bind fun x => P sz g (.preL x.1) d x.2
  | g + 1, .preL n, d, r =>
    if begA r = true then (P sz g .atom d r).bind fun y => (lim (1 + max n y.1) y.2).bind fun z => P sz g (.preL z.1) d z.2 else .ok (n, r)
  | g + 1, .atom, d, r =>
    if begA r = false then fail sz r
    else if isK .sign r = false then .ok (1, r.tail)
    else (P sz g .expr d r.tail).bind fun x =>
      if sees sCom x.2 = true then (P sz g .expr d x.2.tail).bind fun y => (lim (1 + max x.1 y.1) y.2).bind fun z => skip sz sRp z.2 fun r => .ok (z.1, r)
      else skip sz sRp x.2 fun r => .ok (x.1, r)
/-- the fuel of the parser -/
abbrev GF : Nat := 200
def prog (sz : Nat) : Nat → List Tk → Out Unit
  | 0, _ => .no
  | g + 1, r =>
    if sees wEffect r = true then take sz .name r.tail fun r => skip sz sCol r fun r => (P sz GF .ty 60 r).bind fun x => skip sz sArr x.2 fun r => (P sz GF .ty 60 r).bind fun y => skip sz sSem y.2 fun r => prog sz g r
    else (P sz GF .expr 60 r).bind fun x => if x.2 = [] then .ok () else fail sz x.2
def rdg (cs : Cs) : Out Unit :=
  if 10000 < cs.length then .bad .txt else (toks (cs.length + 1) cs 0).bind fun ts => prog cs.length 9 ts
end Afd

/-! Mb: tokenizing: a text's tokens whatever the fuel; texts as trees. -/
namespace Afd
/-- the tokens of a text from a place on -/
def T (cs : Cs) (p : Nat) (R : Out (List Tk)) : Prop := ∀ g, cs.length < g → toks g cs p = R
def Out.pre (ts : List Tk) (R : Out (List Tk)) : Out (List Tk) := R.bind fun rs => .ok (ts ++ rs)
theorem pre_nil (R : Out (List Tk)) : Out.pre [] R = R := by cases R <;> rfl
theorem pre_pre (a b : List Tk) (R : Out (List Tk)) : Out.pre a (Out.pre b R) = Out.pre (a ++ b) R := by
  cases R with
  | no => rfl
  | bad e => rfl
  | ok r => show Out.ok (a ++ (b ++ r)) = Out.ok ((a ++ b) ++ r); rw [List.append_assoc]
theorem T_nil (p : Nat) : T [] p (.ok []) := fun g h => by
  cases g with
  | zero => exact absurd h (Nat.not_lt_zero _)
  | succ g => rfl
theorem T_sp {c : Nat} {cs : Cs} {p : Nat} {R : Out (List Tk)} (hc : isSp c = true) (h : T cs (p + 1) R) : T (c :: cs) p R := fun g hg => by
  cases g with
  | zero => exact absurd hg (Nat.not_lt_zero _)
  | succ g =>
    show (if isSp c = true then toks g cs (p + 1) else _) = R
    rw [if_pos hc]
    exact h g (by simpa using hg)
theorem T_tok {c n : Nat} {cs : Cs} {p : Nat} {t : Tk} {R : Out (List Tk)} (hc : isSp c = false) (ht : tokenAt c cs p = .ok (t, n)) (hn : Nat.blt 0 n = true) (h : T ((c :: cs).drop n) (p + n) R) : T (c :: cs) p (Out.pre [t] R) := fun g hg => by
  cases g with
  | zero => exact absurd hg (Nat.not_lt_zero _)
  | succ g =>
    show (if isSp c = true then toks g cs (p + 1) else (tokenAt c cs p).bind fun x => (toks g ((c :: cs).drop x.2) (p + x.2)).bind fun ts => .ok (x.1 :: ts)) = _
    have hn' : 0 < n := Nat.le_of_ble_eq_true hn
    rw [if_neg (by rw [hc]; decide), ht]
    show ((toks g ((c :: cs).drop n) (p + n)).bind fun ts => .ok (t :: ts)) = _
    rw [h g (by rw [List.length_drop, List.length_cons]; simp only [List.length_cons] at hg; omega)]
    rfl
theorem T_bad {c : Nat} {cs : Cs} {p : Nat} {e : Er} (hc : isSp c = false) (ht : tokenAt c cs p = .bad e) : T (c :: cs) p (.bad e) := fun g hg => by
  cases g with
  | zero => exact absurd hg (Nat.not_lt_zero _)
  | succ g =>
    show (if isSp c = true then toks g cs (p + 1) else (tokenAt c cs p).bind fun x => (toks g ((c :: cs).drop x.2) (p + x.2)).bind fun ts => .ok (x.1 :: ts)) = _
    rw [if_neg (by rw [hc]; decide), ht]
    rfl
theorem T_sps {cs : Cs} {R : Out (List Tk)} : ∀ (n p : Nat), T cs (p + n) R → T (List.replicate n 32 ++ cs) p R
  | 0, p, h => h
  | n + 1, p, h => T_sp rfl (T_sps n (p + 1) (by rw [show p + 1 + n = p + (n + 1) by omega]; exact h))

/-! ### the texts that the law draws, as trees -/
inductive Tr where
  | atm (i : Fin 8) | par (t : Tr) | fst (t : Tr) | let_ (t u : Tr) | if_ (t u : Tr) | han (t u : Tr) | op (i : Fin 5) (t u : Tr) | app (t u : Tr)
def atoms : List Cs := [[120], [49, 50], [116, 114, 117, 101], [121, 95, 49], [117, 110, 105, 116], [40, 102, 32, 51, 41], [40, 49, 44, 32, 50, 41], [40, 97, 115, 107, 32, 111, 32, 49, 41]]
def ops : List Cs := [[32, 43, 32], [32, 45, 32], [32, 42, 32], [32, 60, 32], [32, 61, 61, 32]]
def cs (s : String) : Cs := s.toList.map Char.toNat
def Tr.cs : Tr → Cs
  | .atm i => atoms[i.val]
  | .par t => [40] ++ t.cs ++ [41]
  | .fst t => [102, 115, 116, 32, 40] ++ t.cs ++ [41]
  | .let_ t u => [40, 108, 101, 116, 32, 122, 32, 61, 32] ++ t.cs ++ [32, 105, 110, 32] ++ u.cs ++ [41]
  | .if_ t u => [40, 105, 102, 32] ++ t.cs ++ [32, 116, 104, 101, 110, 32] ++ u.cs ++ [32, 101, 108, 115, 101, 32, 120, 41]
  | .han t u => [40, 104, 97, 110, 100, 108, 101, 32] ++ t.cs ++ [32, 123, 32, 114, 101, 116, 117, 114, 110, 32, 114, 32, 61, 62, 32] ++ u.cs ++
      [32, 124, 32, 111, 32, 121, 32, 107, 32, 61, 62, 32, 107, 32, 121, 32, 124, 32, 112, 32, 121, 32, 107, 32, 61, 62, 32] ++ u.cs ++ [32, 125, 41]
  | .op i t u => [40] ++ t.cs ++ ops[i.val] ++ u.cs ++ [41]
  | .app t u => [40] ++ t.cs ++ [41, 40] ++ u.cs ++ [41]
def Tr.dep : Tr → Nat
  | .atm _ => 0
  | .par t => t.dep + 1
  | .fst t => t.dep + 1
  | .let_ t u => max t.dep u.dep + 1
  | .if_ t u => max t.dep u.dep + 1
  | .han t u => max t.dep u.dep + 1
  | .op _ t u => max t.dep u.dep + 1
  | .app t u => max t.dep u.dep + 1
def sg (s : Cs) (p : Nat) : Tk := ⟨.sign, s, 0, p⟩
def wd (s : Cs) (p : Nat) : Tk := ⟨.word, s, 0, p⟩
def nm (s : Cs) (p : Nat) : Tk := ⟨.name, s, 0, p⟩
def nu (n p : Nat) : Tk := ⟨.num, [], n, p⟩
def atomT (p : Nat) : List (List Tk) := [[nm [120] p], [nu 12 p], [wd wTrue p], [nm [121, 95, 49] p], [wd wUnit p], [sg sLp p, nm [102] (p + 1), nu 3 (p + 3), sg sRp (p + 4)],
  [sg sLp p, nu 1 (p + 1), sg sCom (p + 2), nu 2 (p + 4), sg sRp (p + 5)], [sg sLp p, wd wAsk (p + 1), nm [111] (p + 5), nu 1 (p + 7), sg sRp (p + 8)]]
def opT (p : Nat) : List Tk := [sg sPls (p + 1), sg sMin (p + 1), sg sStr (p + 1), sg sLt (p + 1), sg sEqq (p + 1)]
def Tr.toks : Tr → Nat → List Tk
  | .atm i, p => (atomT p)[i.val]'(by have := i.isLt; simp [atomT])
  | .par t, p => [sg sLp p] ++ (t.toks (p + 1) ++ [sg sRp (p + 1 + t.cs.length)])
  | .fst t, p => [wd wFst p, sg sLp (p + 4)] ++ (t.toks (p + 5) ++ [sg sRp (p + 5 + t.cs.length)])
  | .let_ t u, p => [sg sLp p, wd wLet (p + 1), nm [122] (p + 5), sg sEq (p + 7)] ++ (t.toks (p + 9) ++ ([wd wIn (p + 9 + t.cs.length + 1)] ++ (u.toks (p + 9 + t.cs.length + 4) ++ [sg sRp (p + 9 + t.cs.length + 4 + u.cs.length)])))
  | .if_ t u, p => [sg sLp p, wd wIf (p + 1)] ++ (t.toks (p + 4) ++ ([wd wThen (p + 4 + t.cs.length + 1)] ++ (u.toks (p + 4 + t.cs.length + 6) ++
      [wd wElse (p + 4 + t.cs.length + 6 + u.cs.length + 1), nm [120] (p + 4 + t.cs.length + 6 + u.cs.length + 6), sg sRp (p + 4 + t.cs.length + 6 + u.cs.length + 7)])))
  | .han t u, p => [sg sLp p, wd wHandle (p + 1)] ++ (t.toks (p + 8) ++ ([sg sLb (p + 8 + t.cs.length + 1), wd wReturn (p + 8 + t.cs.length + 3), nm [114] (p + 8 + t.cs.length + 10), sg sFat (p + 8 + t.cs.length + 12)] ++
      (u.toks (p + 8 + t.cs.length + 15) ++
      ([sg sBar (p + 8 + t.cs.length + 15 + u.cs.length + 1), nm [111] (p + 8 + t.cs.length + 15 + u.cs.length + 3), nm [121] (p + 8 + t.cs.length + 15 + u.cs.length + 5), nm [107] (p + 8 + t.cs.length + 15 + u.cs.length + 7), sg sFat (p + 8 + t.cs.length + 15 + u.cs.length + 9),
        nm [107] (p + 8 + t.cs.length + 15 + u.cs.length + 12), nm [121] (p + 8 + t.cs.length + 15 + u.cs.length + 14),
        sg sBar (p + 8 + t.cs.length + 15 + u.cs.length + 16), nm [112] (p + 8 + t.cs.length + 15 + u.cs.length + 18), nm [121] (p + 8 + t.cs.length + 15 + u.cs.length + 20), nm [107] (p + 8 + t.cs.length + 15 + u.cs.length + 22), sg sFat (p + 8 + t.cs.length + 15 + u.cs.length + 24)] ++
      (u.toks (p + 8 + t.cs.length + 15 + u.cs.length + 27) ++ [sg sRb (p + 8 + t.cs.length + 15 + u.cs.length + 27 + u.cs.length + 1), sg sRp (p + 8 + t.cs.length + 15 + u.cs.length + 27 + u.cs.length + 2)])))))
  | .op i t u, p => [sg sLp p] ++ (t.toks (p + 1) ++ ([(opT (p + 1 + t.cs.length))[i.val]'(by have := i.isLt; simp [opT])] ++ (u.toks (p + 1 + t.cs.length + (ops[i.val]).length) ++ [sg sRp (p + 1 + t.cs.length + (ops[i.val]).length + u.cs.length)])))
  | .app t u, p => [sg sLp p] ++ (t.toks (p + 1) ++ ([sg sRp (p + 1 + t.cs.length), sg sLp (p + 1 + t.cs.length + 1)] ++ (u.toks (p + 1 + t.cs.length + 2) ++ [sg sRp (p + 1 + t.cs.length + 2 + u.cs.length)])))

/-- what may follow a drawn text -/
def Fol : Cs → Prop
  | [] => True
  | c :: _ => c = 32 ∨ c = 41
/-- one more token, at a place that is told by arithmetic -/
theorem T_tk {c n : Nat} {cs : Cs} {p : Nat} {t : Tk} {ts : List Tk} {R : Out (List Tk)} (hc : isSp c = false) (ht : tokenAt c cs p = .ok (t, n)) (hn : Nat.blt 0 n = true) (h : T ((c :: cs).drop n) (p + n) (Out.pre ts R)) : T (c :: cs) p (Out.pre (t :: ts) R) := by
  have q := T_tok hc ht hn h
  rw [pre_pre] at q
  exact q
theorem T_end {cs : Cs} {p q : Nat} {R : Out (List Tk)} (h : T cs q R) (e : q = p) : T cs p (Out.pre [] R) := by rw [pre_nil, ← e]; exact h
theorem fol_cases {s : Cs} (h : Fol s) : s = [] ∨ (∃ s', s = 32 :: s') ∨ ∃ s', s = 41 :: s' := by
  cases s with
  | nil => exact .inl rfl
  | cons c s =>
    rcases h with h | h
    · exact .inr (.inl ⟨s, by rw [h]⟩)
    · exact .inr (.inr ⟨s, by rw [h]⟩)
theorem T_atm : ∀ (i : Fin 8) {s : Cs} {p : Nat} {R : Out (List Tk)}, Fol s → T s (p + (Tr.atm i).cs.length) R → T ((Tr.atm i).cs ++ s) p (Out.pre ((Tr.atm i).toks p) R) := by
  intro i s p R hs h
  have small : ∀ i : Fin 8, i = 0 ∨ i = 1 ∨ i = 2 ∨ i = 3 ∨ i = 4 ∨ i = 5 ∨ i = 6 ∨ i = 7 := by decide
  rcases small i with rfl | rfl | rfl | rfl | rfl | rfl | rfl | rfl
  · rcases fol_cases hs with rfl | ⟨s', rfl⟩ | ⟨s', rfl⟩ <;> exact T_tk rfl rfl rfl (T_end h rfl)
  · rcases fol_cases hs with rfl | ⟨s', rfl⟩ | ⟨s', rfl⟩ <;> exact T_tk rfl rfl rfl (T_end h rfl)
  · rcases fol_cases hs with rfl | ⟨s', rfl⟩ | ⟨s', rfl⟩ <;> exact T_tk rfl rfl rfl (T_end h rfl)
  · rcases fol_cases hs with rfl | ⟨s', rfl⟩ | ⟨s', rfl⟩ <;> exact T_tk rfl rfl rfl (T_end h rfl)
  · rcases fol_cases hs with rfl | ⟨s', rfl⟩ | ⟨s', rfl⟩ <;> exact T_tk rfl rfl rfl (T_end h rfl)
  · exact T_tk rfl rfl rfl (T_tk rfl rfl rfl (T_sp rfl (T_tk rfl rfl rfl (T_tk rfl rfl rfl (T_end h rfl)))))
  · exact T_tk rfl rfl rfl (T_tk rfl rfl rfl (T_tk rfl rfl rfl (T_sp rfl (T_tk rfl rfl rfl (T_tk rfl rfl rfl (T_end h rfl))))))
  · exact T_tk rfl rfl rfl (T_tk rfl rfl rfl (T_sp rfl (T_tk rfl rfl rfl (T_sp rfl (T_tk rfl rfl rfl (T_tk rfl rfl rfl (T_end h rfl)))))))

theorem fol32 (s : Cs) : Fol (32 :: s) := .inl rfl
theorem fol41 (s : Cs) : Fol (41 :: s) := .inr rfl
theorem T_tr : ∀ (t : Tr) {s : Cs} {p : Nat} {R : Out (List Tk)}, Fol s → T s (p + t.cs.length) R → T (t.cs ++ s) p (Out.pre (t.toks p) R)
  | .atm i, s, p, R, hs, h => T_atm i hs h
  | .par t, s, p, R, hs, h => by
    have e : (Tr.par t).cs ++ s = 40 :: (t.cs ++ (41 :: s)) := by simp [Tr.cs]
    have l : (Tr.par t).cs.length = t.cs.length + 2 := by simp [Tr.cs]
    rw [e]
    show T _ p (Out.pre ([sg sLp p] ++ (t.toks (p + 1) ++ [sg sRp (p + 1 + t.cs.length)])) R)
    rw [← pre_pre, ← pre_pre]
    refine T_tk rfl rfl rfl (T_end ?_ rfl)
    refine T_tr t (fol41 _) ?_
    exact T_tk rfl rfl rfl (T_end h (by rw [l]; show _ = p + 1 + t.cs.length + 1; omega))
  | .fst t, s, p, R, hs, h => by
    have e : (Tr.fst t).cs ++ s = 102 :: 115 :: 116 :: 32 :: 40 :: (t.cs ++ (41 :: s)) := by simp [Tr.cs]
    have l : (Tr.fst t).cs.length = t.cs.length + 6 := by simp [Tr.cs]
    rw [e]
    show T _ p (Out.pre ([wd wFst p, sg sLp (p + 4)] ++ (t.toks (p + 5) ++ [sg sRp (p + 5 + t.cs.length)])) R)
    rw [← pre_pre, ← pre_pre]
    refine T_tk rfl rfl rfl (T_sp rfl (T_tk rfl rfl rfl (T_end ?_ rfl)))
    refine T_tr t (fol41 _) ?_
    exact T_tk rfl rfl rfl (T_end h (by rw [l]; show _ = p + 5 + t.cs.length + 1; omega))
  | .let_ t u, s, p, R, hs, h => by
    have e : (Tr.let_ t u).cs ++ s = 40 :: 108 :: 101 :: 116 :: 32 :: 122 :: 32 :: 61 :: 32 :: (t.cs ++ (32 :: 105 :: 110 :: 32 :: (u.cs ++ (41 :: s)))) := by simp [Tr.cs]
    have l : (Tr.let_ t u).cs.length = t.cs.length + u.cs.length + 14 := by simp [Tr.cs]; omega
    rw [e]
    unfold Tr.toks
    rw [← pre_pre, ← pre_pre, ← pre_pre, ← pre_pre]
    refine T_tk rfl rfl rfl (T_tk rfl rfl rfl (T_sp rfl (T_tk rfl rfl rfl (T_sp rfl (T_tk rfl rfl rfl (T_sp rfl (T_end ?_ rfl)))))))
    refine T_tr t (fol32 _) ?_
    refine T_sp rfl (T_tk rfl rfl rfl (T_sp rfl (T_end ?_ rfl)))
    refine T_tr u (fol41 _) ?_
    exact T_tk rfl rfl rfl (T_end h (by rw [l]; show _ = p + 9 + t.cs.length + 4 + u.cs.length + 1; omega))
  | .if_ t u, s, p, R, hs, h => by
    have e : (Tr.if_ t u).cs ++ s = 40 :: 105 :: 102 :: 32 :: (t.cs ++ (32 :: 116 :: 104 :: 101 :: 110 :: 32 :: (u.cs ++ (32 :: 101 :: 108 :: 115 :: 101 :: 32 :: 120 :: 41 :: s)))) := by simp [Tr.cs]
    have l : (Tr.if_ t u).cs.length = t.cs.length + u.cs.length + 18 := by simp [Tr.cs]; omega
    rw [e]
    unfold Tr.toks
    rw [← pre_pre, ← pre_pre, ← pre_pre, ← pre_pre]
    refine T_tk rfl rfl rfl (T_tk rfl rfl rfl (T_sp rfl (T_end ?_ rfl)))
    refine T_tr t (fol32 _) ?_
    refine T_sp rfl (T_tk rfl rfl rfl (T_sp rfl (T_end ?_ rfl)))
    refine T_tr u (fol32 _) ?_
    exact T_sp rfl (T_tk rfl rfl rfl (T_sp rfl (T_tk rfl rfl rfl (T_tk rfl rfl rfl (T_end h (by rw [l]; show _ = p + 4 + t.cs.length + 6 + u.cs.length + 8; omega))))))
  | .han t u, s, p, R, hs, h => by
    have e : (Tr.han t u).cs ++ s = 40 :: 104 :: 97 :: 110 :: 100 :: 108 :: 101 :: 32 :: (t.cs ++ (32 :: 123 :: 32 :: 114 :: 101 :: 116 :: 117 :: 114 :: 110 :: 32 :: 114 :: 32 :: 61 :: 62 :: 32 :: (u.cs ++
      (32 :: 124 :: 32 :: 111 :: 32 :: 121 :: 32 :: 107 :: 32 :: 61 :: 62 :: 32 :: 107 :: 32 :: 121 :: 32 :: 124 :: 32 :: 112 :: 32 :: 121 :: 32 :: 107 :: 32 :: 61 :: 62 :: 32 :: (u.cs ++ (32 :: 125 :: 41 :: s)))))) := by simp [Tr.cs]
    have l : (Tr.han t u).cs.length = t.cs.length + u.cs.length + u.cs.length + 53 := by simp [Tr.cs]; omega
    rw [e]
    unfold Tr.toks
    rw [← pre_pre, ← pre_pre, ← pre_pre, ← pre_pre, ← pre_pre, ← pre_pre]
    refine T_tk rfl rfl rfl (T_tk rfl rfl rfl (T_sp rfl (T_end ?_ rfl)))
    refine T_tr t (fol32 _) ?_
    refine T_sp rfl (T_tk rfl rfl rfl (T_sp rfl (T_tk rfl rfl rfl (T_sp rfl (T_tk rfl rfl rfl (T_sp rfl (T_tk rfl rfl rfl (T_sp rfl (T_end ?_ rfl)))))))))
    refine T_tr u (fol32 _) ?_
    refine T_sp rfl (T_tk rfl rfl rfl (T_sp rfl (T_tk rfl rfl rfl (T_sp rfl (T_tk rfl rfl rfl (T_sp rfl (T_tk rfl rfl rfl (T_sp rfl (T_tk rfl rfl rfl (T_sp rfl (T_tk rfl rfl rfl (T_sp rfl (T_tk rfl rfl rfl (T_sp rfl ?_))))))))))))))
    refine T_tk rfl rfl rfl (T_sp rfl (T_tk rfl rfl rfl (T_sp rfl (T_tk rfl rfl rfl (T_sp rfl (T_tk rfl rfl rfl (T_sp rfl (T_tk rfl rfl rfl (T_sp rfl (T_end ?_ rfl))))))))))
    refine T_tr u (fol32 _) ?_
    exact T_sp rfl (T_tk rfl rfl rfl (T_tk rfl rfl rfl (T_end h (by rw [l]; show _ = p + 8 + t.cs.length + 15 + u.cs.length + 27 + u.cs.length + 3; omega))))
  | .op i t u, s, p, R, hs, h => by
    have small : ∀ i : Fin 5, i = 0 ∨ i = 1 ∨ i = 2 ∨ i = 3 ∨ i = 4 := by decide
    have l : (Tr.op i t u).cs.length = t.cs.length + (ops[i.val]).length + u.cs.length + 2 := by simp [Tr.cs]; omega
    unfold Tr.toks
    rw [← pre_pre, ← pre_pre, ← pre_pre, ← pre_pre]
    have e : (Tr.op i t u).cs ++ s = 40 :: (t.cs ++ (ops[i.val] ++ (u.cs ++ (41 :: s)))) := by simp [Tr.cs]
    rw [e]
    refine T_tk rfl rfl rfl (T_end ?_ rfl)
    rcases small i with rfl | rfl | rfl | rfl | rfl
    all_goals
      refine T_tr t (fol32 _) ?_
      refine T_sp rfl (T_tk rfl rfl rfl (T_sp rfl (T_end ?_ rfl)))
      refine T_tr u (fol41 _) ?_
      exact T_tk rfl rfl rfl (T_end h (by rw [l]; first | (show p + (t.cs.length + 3 + u.cs.length + 2) = p + 1 + t.cs.length + 3 + u.cs.length + 1; omega) | (show p + (t.cs.length + 4 + u.cs.length + 2) = p + 1 + t.cs.length + 4 + u.cs.length + 1; omega)))
  | .app t u, s, p, R, hs, h => by
    have e : (Tr.app t u).cs ++ s = 40 :: (t.cs ++ (41 :: 40 :: (u.cs ++ (41 :: s)))) := by simp [Tr.cs]
    have l : (Tr.app t u).cs.length = t.cs.length + u.cs.length + 4 := by simp [Tr.cs]; omega
    rw [e]
    unfold Tr.toks
    rw [← pre_pre, ← pre_pre, ← pre_pre, ← pre_pre]
    refine T_tk rfl rfl rfl (T_end ?_ rfl)
    refine T_tr t (fol41 _) ?_
    refine T_tk rfl rfl rfl (T_tk rfl rfl rfl (T_end ?_ rfl))
    refine T_tr u (fol41 _) ?_
    exact T_tk rfl rfl rfl (T_end h (by rw [l]; show _ = p + 1 + t.cs.length + 2 + u.cs.length + 1; omega))
end Afd

/-! Mc: parsing the drawn texts. -/
namespace Afd
theorem bind_ok {α β : Type} {x : Out α} {a : α} {f : α → Out β} (h : x = .ok a) : x.bind f = f a := by rw [h]; rfl
theorem bind_bad {α β : Type} {x : Out α} {e : Er} {f : α → Out β} (h : x = .bad e) : x.bind f = .bad e := by rw [h]; rfl
theorem lim_ok {n : Nat} {r : List Tk} (h : n ≤ 60) : lim n r = .ok (n, r) := if_neg (by omega)
variable {sz g d n m p q : Nat} {X Y Z r : List Tk}
theorem P_mul : P sz (g + 1) .mul d r = (P sz g .pre d r).bind fun x => P sz g (.mulL x.1) d x.2 := rfl
theorem P_add : P sz (g + 1) .add d r = (P sz g .mul d r).bind fun x => P sz g (.addL x.1) d x.2 := rfl
theorem P_mulL : P sz (g + 1) (.mulL n) d r = if sees sStr r = true then (P sz g .pre d r.tail).bind fun y => (lim (1 + max n y.1) y.2).bind fun z => P sz g (.mulL z.1) d z.2 else .ok (n, r) := rfl
theorem P_addL : P sz (g + 1) (.addL n) d r = if (sees sPls r || sees sMin r) = true then (P sz g .mul d r.tail).bind fun y => (lim (1 + max n y.1) y.2).bind fun z => P sz g (.addL z.1) d z.2 else .ok (n, r) := rfl
theorem P_cmp : P sz (g + 1) .cmp d r = (P sz g .add d r).bind fun x => if (sees sLt x.2 || sees sEqq x.2) = true then (P sz g .add d x.2.tail).bind fun y => lim (1 + max x.1 y.1) y.2 else .ok x := rfl
theorem P_preL : P sz (g + 1) (.preL n) d r = if begA r = true then (P sz g .atom d r).bind fun y => (lim (1 + max n y.1) y.2).bind fun z => P sz g (.preL z.1) d z.2 else .ok (n, r) := rfl
theorem P_expr : P sz (g + 1) .expr (d + 1) r =
    if sees wFun r = true then take sz .name r.tail fun r => skip sz sFat r fun r => (P sz g .expr d r).bind fun x => lim (1 + x.1) x.2
    else if sees wRec r = true then take sz .name r.tail fun r => take sz .name r fun r => skip sz sFat r fun r => (P sz g .expr d r).bind fun x => lim (1 + x.1) x.2
    else if sees wLet r = true then take sz .name r.tail fun r => skip sz sEq r fun r => (P sz g .expr d r).bind fun x => skip sz wIn x.2 fun r => (P sz g .expr d r).bind fun y => lim (1 + max x.1 y.1) y.2
    else if sees wPrint r = true then (P sz g .add d r.tail).bind fun x => skip sz sSem x.2 fun r => (P sz g .expr d r).bind fun y => lim (1 + max x.1 y.1) y.2
    else if sees wIf r = true then P sz g .choice d r.tail
    else if sees wHandle r = true then P sz g .handler d r.tail
    else P sz g .cmp d r := rfl
theorem P_choice : P sz (g + 1) .choice d r = (P sz g .expr d r).bind fun x => skip sz wThen x.2 fun r => (P sz g .expr d r).bind fun y => skip sz wElse y.2 fun r => (P sz g .expr d r).bind fun z => lim (1 + max x.1 (max y.1 z.1)) z.2 := rfl
theorem P_handler : P sz (g + 1) .handler d r = (P sz g .expr d r).bind fun x => skip sz sLb x.2 fun r => skip sz wReturn r fun r => take sz .name r fun r => skip sz sFat r fun r => (P sz g .expr d r).bind fun y => P sz g (.handL (max x.1 y.1)) d y.2 := rfl
theorem P_handL : P sz (g + 1) (.handL n) d r = if sees sBar r = true then take sz .name r.tail fun r => take sz .name r fun r => take sz .name r fun r => skip sz sFat r fun r => (P sz g .expr d r).bind fun x => P sz g (.handL (max n x.1)) d x.2
    else skip sz sRb r fun r => lim (n + 1) r := rfl
theorem P_pre : P sz (g + 1) .pre (d + 1) r =
    if (sees wFst r || sees wSnd r || sees wNot r) = true then (P sz g .pre d r.tail).bind fun x => lim (1 + x.1) x.2
    else if sees wAsk r = true then take sz .name r.tail fun r => (P sz g .pre d r).bind fun x => lim (1 + x.1) x.2
    else (P sz g .atom d r).bind fun x => P sz g (.preL x.1) d x.2 := rfl
theorem P_atom : P sz (g + 1) .atom d r =
    if begA r = false then fail sz r
    else if isK .sign r = false then .ok (1, r.tail)
    else (P sz g .expr d r.tail).bind fun x =>
      if sees sCom x.2 = true then (P sz g .expr d x.2.tail).bind fun y => (lim (1 + max x.1 y.1) y.2).bind fun z => skip sz sRp z.2 fun r => .ok (z.1, r)
      else skip sz sRp x.2 fun r => .ok (x.1, r) := rfl
theorem iff_f {b : Bool} {β : Type} {x y : β} (h : b = false) : (if b = true then x else y) = y := by rw [h]; rfl
theorem iff_t {b : Bool} {β : Type} {x y : β} (h : b = true) : (if b = true then x else y) = x := by rw [h]; rfl
theorem P_preL_end (h : begA r = false) : P sz (g + 1) (.preL n) d r = .ok (n, r) := by rw [P_preL, iff_f h]
theorem P_mulL_end (h : sees sStr r = false) : P sz (g + 1) (.mulL n) d r = .ok (n, r) := by rw [P_mulL, iff_f h]
theorem P_addL_end (h : (sees sPls r || sees sMin r) = false) : P sz (g + 1) (.addL n) d r = .ok (n, r) := by rw [P_addL, iff_f h]
theorem L_mul (h : P sz (g + 1) .pre d X = .ok (n, r)) (hs : sees sStr r = false) : P sz (g + 2) .mul d X = .ok (n, r) := by
  rw [P_mul, bind_ok h]; exact P_mulL_end hs
theorem L_add (h : P sz (g + 2) .mul d X = .ok (n, r)) (hs : (sees sPls r || sees sMin r) = false) : P sz (g + 3) .add d X = .ok (n, r) := by
  rw [P_add, bind_ok h]; exact P_addL_end hs
theorem L_cmp (h : P sz (g + 3) .add d X = .ok (n, r)) (hs : (sees sLt r || sees sEqq r) = false) : P sz (g + 4) .cmp d X = .ok (n, r) := by
  rw [P_cmp, bind_ok h]; exact iff_f hs
/-- the words that begin an expression -/
def kwE (r : List Tk) : Bool := sees wFun r || sees wRec r || sees wLet r || sees wPrint r || sees wIf r || sees wHandle r
theorem L_expr (h : P sz (g + 4) .cmp d X = .ok (n, r)) (hk : kwE X = false) : P sz (g + 5) .expr (d + 1) X = .ok (n, r) := by
  unfold kwE at hk
  simp only [Bool.or_eq_false_iff] at hk
  obtain ⟨⟨⟨⟨⟨h1, h2⟩, h3⟩, h4⟩, h5⟩, h6⟩ := hk
  rw [P_expr, iff_f h1, iff_f h2, iff_f h3, iff_f h4, iff_f h5, iff_f h6]
  exact h
/-- what may stand behind an expression -/
def folE (r : List Tk) : Bool := !(begA r || sees sStr r || sees sPls r || sees sMin r || sees sLt r || sees sEqq r)
theorem L_ex (h : P sz (g + 1) .pre d X = .ok (n, r)) (hk : kwE X = false) (hf : folE r = true) : P sz (g + 5) .expr (d + 1) X = .ok (n, r) := by
  unfold folE at hf
  simp only [Bool.not_eq_true', Bool.or_eq_false_iff] at hf
  obtain ⟨⟨⟨⟨⟨h1, h2⟩, h3⟩, h4⟩, h5⟩, h6⟩ := hf
  exact L_expr (L_cmp (L_add (L_mul h h2) (by rw [h3, h4]; rfl)) (by rw [h5, h6]; rfl)) hk
theorem L_atom (h : P sz (g + 1) .expr d X = .ok (n, sg sRp q :: r)) : P sz (g + 2) .atom d (sg sLp p :: X) = .ok (n, r) := by
  have e : P sz (g + 2) .atom d (sg sLp p :: X) = (P sz (g + 1) .expr d X).bind fun x =>
      if sees sCom x.2 = true then (P sz (g + 1) .expr d x.2.tail).bind fun y => (lim (1 + max x.1 y.1) y.2).bind fun z => skip sz sRp z.2 fun r => .ok (z.1, r)
      else skip sz sRp x.2 fun r => .ok (x.1, r) := rfl
  rw [e, bind_ok h]
  rfl
theorem L_paren (h : P sz (g + 1) .expr d X = .ok (n, sg sRp q :: r)) (hb : begA r = false) : P sz (g + 3) .pre (d + 1) (sg sLp p :: X) = .ok (n, r) := by
  have e : P sz (g + 3) .pre (d + 1) (sg sLp p :: X) = (P sz (g + 2) .atom d (sg sLp p :: X)).bind fun x => P sz (g + 2) (.preL x.1) d x.2 := rfl
  rw [e, bind_ok (L_atom h)]
  exact P_preL_end hb
theorem L_fst (h : P sz g .pre d X = .ok (n, r)) (hn : n ≤ 59) : P sz (g + 1) .pre (d + 1) (wd wFst p :: X) = .ok (1 + n, r) := by
  have e : P sz (g + 1) .pre (d + 1) (wd wFst p :: X) = (P sz g .pre d X).bind fun x => lim (1 + x.1) x.2 := rfl
  rw [e, bind_ok h]
  exact lim_ok (by show 1 + n ≤ 60; omega)
theorem L_app (h : P sz (g + 2) .expr d X = .ok (n, sg sRp q :: sg sLp p :: Y)) {q' p' : Nat} (h2 : P sz (g + 1) .expr d Y = .ok (m, sg sRp q' :: r)) (hb : begA r = false) (hn : n ≤ 59) (hm : m ≤ 59) :
    P sz (g + 4) .pre (d + 1) (sg sLp p' :: X) = .ok (1 + max n m, r) := by
  have e : P sz (g + 4) .pre (d + 1) (sg sLp p' :: X) = (P sz (g + 3) .atom d (sg sLp p' :: X)).bind fun x => P sz (g + 3) (.preL x.1) d x.2 := rfl
  rw [e, bind_ok (L_atom h)]
  have e2 : P sz (g + 3) (.preL n) d (sg sLp p :: Y) = (P sz (g + 2) .atom d (sg sLp p :: Y)).bind fun y => (lim (1 + max n y.1) y.2).bind fun z => P sz (g + 2) (.preL z.1) d z.2 := rfl
  show P sz (g + 3) (.preL n) d (sg sLp p :: Y) = _
  rw [e2, bind_ok (L_atom h2)]
  show (lim (1 + max n m) r).bind _ = _
  rw [lim_ok (by omega)]
  exact P_preL_end hb
theorem L_let {q1 q2 q3 q4 : Nat} (h : P sz g .expr d X = .ok (n, wd wIn q4 :: Y)) (h2 : P sz g .expr d Y = .ok (m, r)) (hn : n ≤ 59) (hm : m ≤ 59) : P sz (g + 1) .expr (d + 1) (wd wLet q1 :: nm [122] q2 :: sg sEq q3 :: X) = .ok (1 + max n m, r) := by
  have e : P sz (g + 1) .expr (d + 1) (wd wLet q1 :: nm [122] q2 :: sg sEq q3 :: X) = (P sz g .expr d X).bind fun x => skip sz wIn x.2 fun r => (P sz g .expr d r).bind fun y => lim (1 + max x.1 y.1) y.2 := rfl
  rw [e, bind_ok h]
  show (P sz g .expr d Y).bind _ = _
  rw [bind_ok h2]
  exact lim_ok (by show 1 + max n m ≤ 60; omega)
theorem L_if {q1 q2 q3 k : Nat} (h : P sz g .expr d X = .ok (n, wd wThen q2 :: Y)) (h2 : P sz g .expr d Y = .ok (m, wd wElse q3 :: Z)) (h3 : P sz g .expr d Z = .ok (k, r)) (hn : n ≤ 59) (hm : m ≤ 59) (hk : k ≤ 59) :
    P sz (g + 2) .expr (d + 1) (wd wIf q1 :: X) = .ok (1 + max n (max m k), r) := by
  have e : P sz (g + 2) .expr (d + 1) (wd wIf q1 :: X) = (P sz g .expr d X).bind fun x => skip sz wThen x.2 fun r => (P sz g .expr d r).bind fun y => skip sz wElse y.2 fun r => (P sz g .expr d r).bind fun z => lim (1 + max x.1 (max y.1 z.1)) z.2 := rfl
  rw [e, bind_ok h]
  show (P sz g .expr d Y).bind _ = _
  rw [bind_ok h2]
  show (P sz g .expr d Z).bind _ = _
  rw [bind_ok h3]
  exact lim_ok (by show 1 + max n (max m k) ≤ 60; omega)
theorem L_han {q1 q2 q3 q4 q5 : Nat} (h : P sz (g + 1) .expr d X = .ok (n, sg sLb q2 :: wd wReturn q3 :: nm [114] q4 :: sg sFat q5 :: Y)) (h2 : P sz (g + 1) .expr d Y = .ok (m, Z)) (h3 : P sz (g + 1) (.handL (max n m)) d Z = .ok (p, r)) :
    P sz (g + 3) .expr (d + 1) (wd wHandle q1 :: X) = .ok (p, r) := by
  have e : P sz (g + 3) .expr (d + 1) (wd wHandle q1 :: X) = (P sz (g + 1) .expr d X).bind fun x => skip sz sLb x.2 fun r => skip sz wReturn r fun r => take sz .name r fun r => skip sz sFat r fun r => (P sz (g + 1) .expr d r).bind fun y => P sz (g + 1) (.handL (max x.1 y.1)) d y.2 := rfl
  rw [e, bind_ok h]
  show (P sz (g + 1) .expr d Y).bind _ = _
  rw [bind_ok h2]
  exact h3
theorem L_clause {c1 c2 c3 : Cs} {q1 q2 q3 q4 q5 k : Nat} (h : P sz g .expr d X = .ok (m, Y)) (h2 : P sz g (.handL (max n m)) d Y = .ok (k, r)) :
    P sz (g + 1) (.handL n) d (sg sBar q1 :: nm c1 q2 :: nm c2 q3 :: nm c3 q4 :: sg sFat q5 :: X) = .ok (k, r) := by
  have e : P sz (g + 1) (.handL n) d (sg sBar q1 :: nm c1 q2 :: nm c2 q3 :: nm c3 q4 :: sg sFat q5 :: X) = (P sz g .expr d X).bind fun x => P sz g (.handL (max n x.1)) d x.2 := rfl
  rw [e, bind_ok h]
  exact h2
theorem L_hend (hn : n ≤ 59) : P sz (g + 1) (.handL n) d (sg sRb q :: r) = .ok (n + 1, r) := by
  have e : P sz (g + 1) (.handL n) d (sg sRb q :: r) = lim (n + 1) r := rfl
  rw [e]
  exact lim_ok (by omega)
/-- the sign of an operator, told by its token -/
theorem L_star (h : P sz (g + 2) .pre d X = .ok (n, sg sStr q :: Y)) (h2 : P sz (g + 1) .pre d Y = .ok (m, r)) (hs : sees sStr r = false) (hn : n ≤ 59) (hm : m ≤ 59) : P sz (g + 3) .mul d X = .ok (1 + max n m, r) := by
  rw [P_mul, bind_ok h]
  have e : P sz (g + 2) (.mulL n) d (sg sStr q :: Y) = (P sz (g + 1) .pre d Y).bind fun y => (lim (1 + max n y.1) y.2).bind fun z => P sz (g + 1) (.mulL z.1) d z.2 := rfl
  show P sz (g + 2) (.mulL n) d (sg sStr q :: Y) = _
  rw [e, bind_ok h2]
  show (lim (1 + max n m) r).bind _ = _
  rw [lim_ok (by omega)]
  exact P_mulL_end hs
theorem L_plus {t : Tk} (ht : (sees sPls (t :: Y) || sees sMin (t :: Y)) = true) (h : P sz (g + 2) .mul d X = .ok (n, t :: Y)) (h2 : P sz (g + 1) .mul d Y = .ok (m, r)) (hs : (sees sPls r || sees sMin r) = false) (hn : n ≤ 59) (hm : m ≤ 59) : P sz (g + 3) .add d X = .ok (1 + max n m, r) := by
  rw [P_add, bind_ok h]
  show P sz (g + 2) (.addL n) d (t :: Y) = _
  rw [P_addL, iff_t ht]
  show (P sz (g + 1) .mul d Y).bind _ = _
  rw [bind_ok h2]
  show (lim (1 + max n m) r).bind _ = _
  rw [lim_ok (by omega)]
  exact P_addL_end hs
theorem L_less {t : Tk} (ht : (sees sLt (t :: Y) || sees sEqq (t :: Y)) = true) (h : P sz g .add d X = .ok (n, t :: Y)) (h2 : P sz g .add d Y = .ok (m, r)) (hn : n ≤ 59) (hm : m ≤ 59) : P sz (g + 1) .cmp d X = .ok (1 + max n m, r) := by
  rw [P_cmp, bind_ok h]
  show (if (sees sLt (t :: Y) || sees sEqq (t :: Y)) = true then (P sz g .add d Y).bind fun y => lim (1 + max n y.1) y.2 else .ok (n, t :: Y)) = _
  rw [iff_t ht, bind_ok h2]
  exact lim_ok (by show 1 + max n m ≤ 60; omega)

/-! ### the drawn texts -/
def Tr.dp : Tr → Nat
  | .atm i => [1, 1, 1, 1, 1, 2, 2, 2][i.val]
  | .par t => t.dp
  | .fst t => 1 + t.dp
  | .let_ t u => 1 + max t.dp u.dp
  | .if_ t u => 1 + max t.dp (max u.dp 1)
  | .han t u => max (max (max t.dp u.dp) 2) u.dp + 1
  | .op _ t u => 1 + max t.dp u.dp
  | .app t u => 1 + max t.dp u.dp
theorem dp_le : ∀ t : Tr, t.dp ≤ 3 * t.dep + 2
  | .atm i => by
    have h : ∀ i : Fin 8, [1, 1, 1, 1, 1, 2, 2, 2][i.val] ≤ 2 := by decide
    have := h i
    show [1, 1, 1, 1, 1, 2, 2, 2][i.val] ≤ _
    omega
  | .par t => by have := dp_le t; simp only [Tr.dp, Tr.dep]; omega
  | .fst t => by have := dp_le t; simp only [Tr.dp, Tr.dep]; omega
  | .let_ t u => by have := dp_le t; have := dp_le u; simp only [Tr.dp, Tr.dep]; omega
  | .if_ t u => by have := dp_le t; have := dp_le u; simp only [Tr.dp, Tr.dep]; omega
  | .han t u => by have := dp_le t; have := dp_le u; simp only [Tr.dp, Tr.dep]; omega
  | .op i t u => by have := dp_le t; have := dp_le u; simp only [Tr.dp, Tr.dep]; omega
  | .app t u => by have := dp_le t; have := dp_le u; simp only [Tr.dp, Tr.dep]; omega
theorem fin8 : ∀ i : Fin 8, i = 0 ∨ i = 1 ∨ i = 2 ∨ i = 3 ∨ i = 4 ∨ i = 5 ∨ i = 6 ∨ i = 7 := by decide
theorem fin5 : ∀ i : Fin 5, i = 0 ∨ i = 1 ∨ i = 2 ∨ i = 3 ∨ i = 4 := by decide
theorem kw_tr (t : Tr) (p : Nat) (r : List Tk) : kwE (t.toks p ++ r) = false := by
  cases t with
  | atm i => rcases fin8 i with rfl | rfl | rfl | rfl | rfl | rfl | rfl | rfl <;> rfl
  | _ => rfl
theorem P_atm : ∀ (i : Fin 8) {g d p : Nat} {r : List Tk}, begA r = false → P sz (g + 20) .pre (d + 4) ((Tr.atm i).toks p ++ r) = .ok ((Tr.atm i).dp, r) := by
  intro i g d p r hb
  rcases fin8 i with rfl | rfl | rfl | rfl | rfl | rfl | rfl | rfl
  · show P sz (g + 19) (.preL 1) (d + 3) r = _; exact P_preL_end hb
  · show P sz (g + 19) (.preL 1) (d + 3) r = _; exact P_preL_end hb
  · show P sz (g + 19) (.preL 1) (d + 3) r = _; exact P_preL_end hb
  · show P sz (g + 19) (.preL 1) (d + 3) r = _; exact P_preL_end hb
  · show P sz (g + 19) (.preL 1) (d + 3) r = _; exact P_preL_end hb
  · show P sz (g + 19) (.preL 2) (d + 3) r = _; exact P_preL_end hb
  · show P sz (g + 19) (.preL 2) (d + 3) r = _; exact P_preL_end hb
  · show P sz (g + 19) (.preL 2) (d + 3) r = _; exact P_preL_end hb

/-- a drawn text is read as a prefix, whatever stands behind it that begins no atom -/
def Pr (sz : Nat) (t : Tr) : Prop := ∀ (g d p : Nat) (r : List Tk), 20 * t.dep + 20 ≤ g → 3 * t.dep + 4 ≤ d → begA r = false → P sz g .pre d (t.toks p ++ r) = .ok (t.dp, r)
theorem up {k n : Nat} (h : k ≤ n) : ∃ m, n = m + k := ⟨n - k, by omega⟩
theorem fol_beg {r : List Tk} (h : folE r = true) : begA r = false := by
  unfold folE at h
  simp only [Bool.not_eq_true', Bool.or_eq_false_iff] at h
  exact h.1.1.1.1.1
theorem Pr.ex {sz : Nat} {t : Tr} (h : Pr sz t) {g d p : Nat} {r : List Tk} (hg : 20 * t.dep + 24 ≤ g) (hd : 3 * t.dep + 5 ≤ d) (hf : folE r = true) : P sz g .expr d (t.toks p ++ r) = .ok (t.dp, r) := by
  obtain ⟨g', rfl⟩ := up (show 5 ≤ g by omega)
  obtain ⟨d', rfl⟩ := up (show 1 ≤ d by omega)
  exact L_ex (h (g' + 1) d' p r (by omega) (by omega) (fol_beg hf)) (kw_tr t p r) hf
theorem Pr_atm {sz : Nat} (i : Fin 8) : Pr sz (.atm i) := fun g d p r hg hd hb => by
    simp only [Tr.dep] at hg hd
    obtain ⟨g', rfl⟩ := up (show 20 ≤ g by omega)
    obtain ⟨d', rfl⟩ := up (show 4 ≤ d by omega)
    exact P_atm i hb
theorem P_tr {sz : Nat} : ∀ t : Tr, t.dep ≤ 10 → Pr sz t
  | .atm i, _ => Pr_atm i
  | .par t, h10 => fun g d p r hg hd hb => by
    simp only [Tr.dep] at hg hd h10
    have ih := P_tr (sz := sz) t (by omega)
    obtain ⟨g', rfl⟩ := up (show 3 ≤ g by omega)
    obtain ⟨d', rfl⟩ := up (show 1 ≤ d by omega)
    have e : (Tr.par t).toks p ++ r = sg sLp p :: (t.toks (p + 1) ++ sg sRp (p + 1 + t.cs.length) :: r) := by simp [Tr.toks]
    rw [e]
    exact L_paren (ih.ex (by omega) (by omega) rfl) hb
  | .fst t, h10 => fun g d p r hg hd hb => by
    simp only [Tr.dep] at hg hd h10
    have ih := P_tr (sz := sz) t (by omega)
    have l := dp_le t
    obtain ⟨g', rfl⟩ := up (show 4 ≤ g by omega)
    obtain ⟨d', rfl⟩ := up (show 2 ≤ d by omega)
    have e : (Tr.fst t).toks p ++ r = wd wFst p :: sg sLp (p + 4) :: (t.toks (p + 5) ++ sg sRp (p + 5 + t.cs.length) :: r) := by simp [Tr.toks]
    rw [e]
    exact L_fst (L_paren (ih.ex (by omega) (by omega) rfl) hb) (by omega)
  | .let_ t u, h10 => fun g d p r hg hd hb => by
    simp only [Tr.dep] at hg hd h10
    have it := P_tr (sz := sz) t (by omega)
    have iu := P_tr (sz := sz) u (by omega)
    have lt := dp_le t
    have lu := dp_le u
    obtain ⟨g', rfl⟩ := up (show 4 ≤ g by omega)
    obtain ⟨d', rfl⟩ := up (show 2 ≤ d by omega)
    have e : (Tr.let_ t u).toks p ++ r = sg sLp p :: wd wLet (p + 1) :: nm [122] (p + 5) :: sg sEq (p + 7) :: (t.toks (p + 9) ++ (wd wIn (p + 9 + t.cs.length + 1) :: (u.toks (p + 9 + t.cs.length + 4) ++ sg sRp (p + 9 + t.cs.length + 4 + u.cs.length) :: r))) := by simp [Tr.toks]
    rw [e]
    exact L_paren (L_let (it.ex (by omega) (by omega) rfl) (iu.ex (by omega) (by omega) rfl) (by omega) (by omega)) hb
  | .if_ t u, h10 => fun g d p r hg hd hb => by
    simp only [Tr.dep] at hg hd h10
    have it := P_tr (sz := sz) t (by omega)
    have iu := P_tr (sz := sz) u (by omega)
    have ix := Pr_atm (sz := sz) 0
    have lt := dp_le t
    have lu := dp_le u
    obtain ⟨g', rfl⟩ := up (show 5 ≤ g by omega)
    obtain ⟨d', rfl⟩ := up (show 2 ≤ d by omega)
    have e : (Tr.if_ t u).toks p ++ r = sg sLp p :: wd wIf (p + 1) :: (t.toks (p + 4) ++ (wd wThen (p + 4 + t.cs.length + 1) :: (u.toks (p + 4 + t.cs.length + 6) ++ (wd wElse (p + 4 + t.cs.length + 6 + u.cs.length + 1) ::
      ((Tr.atm 0).toks (p + 4 + t.cs.length + 6 + u.cs.length + 6) ++ sg sRp (p + 4 + t.cs.length + 6 + u.cs.length + 7) :: r))))) := by simp [Tr.toks, atomT]
    rw [e]
    have e3 : (Tr.atm 0).dep = 0 := rfl
    exact L_paren (L_if (it.ex (by omega) (by omega) rfl) (iu.ex (by omega) (by omega) rfl) (ix.ex (by omega) (by omega) rfl) (by omega) (by omega) (by decide)) hb
  | .han t u, h10 => fun g d p r hg hd hb => by
    simp only [Tr.dep] at hg hd h10
    have it := P_tr (sz := sz) t (by omega)
    have iu := P_tr (sz := sz) u (by omega)
    have lt := dp_le t
    have lu := dp_le u
    obtain ⟨g', rfl⟩ := up (show 20 ≤ g by omega)
    obtain ⟨d', rfl⟩ := up (show 4 ≤ d by omega)
    have e : (Tr.han t u).toks p ++ r = sg sLp p :: wd wHandle (p + 1) :: (t.toks (p + 8) ++ (sg sLb (p + 8 + t.cs.length + 1) :: wd wReturn (p + 8 + t.cs.length + 3) :: nm [114] (p + 8 + t.cs.length + 10) :: sg sFat (p + 8 + t.cs.length + 12) ::
      (u.toks (p + 8 + t.cs.length + 15) ++
      (sg sBar (p + 8 + t.cs.length + 15 + u.cs.length + 1) :: nm [111] (p + 8 + t.cs.length + 15 + u.cs.length + 3) :: nm [121] (p + 8 + t.cs.length + 15 + u.cs.length + 5) :: nm [107] (p + 8 + t.cs.length + 15 + u.cs.length + 7) :: sg sFat (p + 8 + t.cs.length + 15 + u.cs.length + 9) ::
        nm [107] (p + 8 + t.cs.length + 15 + u.cs.length + 12) :: nm [121] (p + 8 + t.cs.length + 15 + u.cs.length + 14) ::
        sg sBar (p + 8 + t.cs.length + 15 + u.cs.length + 16) :: nm [112] (p + 8 + t.cs.length + 15 + u.cs.length + 18) :: nm [121] (p + 8 + t.cs.length + 15 + u.cs.length + 20) :: nm [107] (p + 8 + t.cs.length + 15 + u.cs.length + 22) :: sg sFat (p + 8 + t.cs.length + 15 + u.cs.length + 24) ::
      (u.toks (p + 8 + t.cs.length + 15 + u.cs.length + 27) ++ sg sRb (p + 8 + t.cs.length + 15 + u.cs.length + 27 + u.cs.length + 1) :: sg sRp (p + 8 + t.cs.length + 15 + u.cs.length + 27 + u.cs.length + 2) :: r))))) := by simp [Tr.toks]
    rw [e]
    refine L_paren (q := p + 8 + t.cs.length + 15 + u.cs.length + 27 + u.cs.length + 2) (L_han (it.ex (by omega) (by omega) rfl) (iu.ex (by omega) (by omega) rfl) ?_) hb
    refine L_clause (m := 2) (Y := sg sBar (p + 8 + t.cs.length + 15 + u.cs.length + 16) :: nm [112] (p + 8 + t.cs.length + 15 + u.cs.length + 18) :: nm [121] (p + 8 + t.cs.length + 15 + u.cs.length + 20) :: nm [107] (p + 8 + t.cs.length + 15 + u.cs.length + 22) :: sg sFat (p + 8 + t.cs.length + 15 + u.cs.length + 24) ::
      (u.toks (p + 8 + t.cs.length + 15 + u.cs.length + 27) ++ sg sRb (p + 8 + t.cs.length + 15 + u.cs.length + 27 + u.cs.length + 1) :: sg sRp (p + 8 + t.cs.length + 15 + u.cs.length + 27 + u.cs.length + 2) :: r)) rfl ?_
    refine L_clause (iu.ex (by omega) (by omega) rfl) ?_
    exact L_hend (by omega)
  | .app t u, h10 => fun g d p r hg hd hb => by
    simp only [Tr.dep] at hg hd h10
    have it := P_tr (sz := sz) t (by omega)
    have iu := P_tr (sz := sz) u (by omega)
    have lt := dp_le t
    have lu := dp_le u
    obtain ⟨g', rfl⟩ := up (show 4 ≤ g by omega)
    obtain ⟨d', rfl⟩ := up (show 1 ≤ d by omega)
    have e : (Tr.app t u).toks p ++ r = sg sLp p :: (t.toks (p + 1) ++ (sg sRp (p + 1 + t.cs.length) :: sg sLp (p + 1 + t.cs.length + 1) :: (u.toks (p + 1 + t.cs.length + 2) ++ sg sRp (p + 1 + t.cs.length + 2 + u.cs.length) :: r))) := by simp [Tr.toks]
    rw [e]
    exact L_app (it.ex (by omega) (by omega) rfl) (iu.ex (by omega) (by omega) rfl) hb (by omega) (by omega)
  | .op i t u, h10 => fun g d p r hg hd hb => by
    simp only [Tr.dep] at hg hd h10
    have it := P_tr (sz := sz) t (by omega)
    have iu := P_tr (sz := sz) u (by omega)
    have lt := dp_le t
    have lu := dp_le u
    obtain ⟨g', rfl⟩ := up (show 10 ≤ g by omega)
    obtain ⟨d', rfl⟩ := up (show 2 ≤ d by omega)
    have e : (Tr.op i t u).toks p ++ r = sg sLp p :: (t.toks (p + 1) ++ ((opT (p + 1 + t.cs.length))[i.val]'(by have := i.isLt; simp [opT]) :: (u.toks (p + 1 + t.cs.length + (ops[i.val]).length) ++ sg sRp (p + 1 + t.cs.length + (ops[i.val]).length + u.cs.length) :: r))) := by simp [Tr.toks]
    rw [e]
    refine L_paren (g := g' + 7) (n := 1 + max t.dp u.dp) (q := p + 1 + t.cs.length + (ops[i.val]).length + u.cs.length) ?_ hb
    refine L_expr (g := g' + 3) (d := d') ?_ (kw_tr t _ _)
    rcases fin5 i with rfl | rfl | rfl | rfl | rfl
    · exact L_cmp (L_plus (g := g' + 3) rfl (L_mul (g := g' + 3) (it _ _ _ _ (by omega) (by omega) rfl) rfl) (L_mul (g := g' + 2) (iu _ _ _ _ (by omega) (by omega) rfl) rfl) rfl (by omega) (by omega)) rfl
    · exact L_cmp (L_plus (g := g' + 3) rfl (L_mul (g := g' + 3) (it _ _ _ _ (by omega) (by omega) rfl) rfl) (L_mul (g := g' + 2) (iu _ _ _ _ (by omega) (by omega) rfl) rfl) rfl (by omega) (by omega)) rfl
    · exact L_cmp (L_add (g := g' + 3) (L_star (g := g' + 2) (it _ _ _ _ (by omega) (by omega) rfl) (iu _ _ _ _ (by omega) (by omega) rfl) rfl (by omega) (by omega)) rfl) rfl
    · exact L_less rfl (L_add (g := g' + 3) (L_mul (g := g' + 3) (it _ _ _ _ (by omega) (by omega) rfl) rfl) rfl) (L_add (g := g' + 3) (L_mul (g := g' + 3) (iu _ _ _ _ (by omega) (by omega) rfl) rfl) rfl) (by omega) (by omega)
    · exact L_less rfl (L_add (g := g' + 3) (L_mul (g := g' + 3) (it _ _ _ _ (by omega) (by omega) rfl) rfl) rfl) (L_add (g := g' + 3) (L_mul (g := g' + 3) (iu _ _ _ _ (by omega) (by omega) rfl) rfl) rfl) (by omega) (by omega)
end Afd

/-! Md: what the law asks, told of the mirror. -/
namespace Afd
variable {sz g d n m p q : Nat} {X Y Z r : List Tk} {e : Er}
theorem B_mul (h : P sz g .pre d X = .bad e) : P sz (g + 1) .mul d X = .bad e := by rw [P_mul, bind_bad h]
theorem B_add (h : P sz g .mul d X = .bad e) : P sz (g + 1) .add d X = .bad e := by rw [P_add, bind_bad h]
theorem B_cmp (h : P sz g .add d X = .bad e) : P sz (g + 1) .cmp d X = .bad e := by rw [P_cmp, bind_bad h]
theorem B_expr (h : P sz g .cmp d X = .bad e) (hk : kwE X = false) : P sz (g + 1) .expr (d + 1) X = .bad e := by
  unfold kwE at hk
  simp only [Bool.or_eq_false_iff] at hk
  obtain ⟨⟨⟨⟨⟨h1, h2⟩, h3⟩, h4⟩, h5⟩, h6⟩ := hk
  rw [P_expr, iff_f h1, iff_f h2, iff_f h3, iff_f h4, iff_f h5, iff_f h6]
  exact h
theorem B_open (h : P sz (g + 1) .expr d X = .ok (n, [])) : P sz (g + 3) .pre (d + 1) (sg sLp p :: X) = .bad (.mal sz) := by
  have e : P sz (g + 3) .pre (d + 1) (sg sLp p :: X) = ((P sz (g + 1) .expr d X).bind fun x =>
      if sees sCom x.2 = true then (P sz (g + 1) .expr d x.2.tail).bind fun y => (lim (1 + max x.1 y.1) y.2).bind fun z => skip sz sRp z.2 fun r => .ok (z.1, r)
      else skip sz sRp x.2 fun r => .ok (x.1, r)).bind fun x => P sz (g + 2) (.preL x.1) d x.2 := rfl
  rw [e, bind_ok h]
  rfl
theorem prog_expr (h0 : sees wEffect X = false) (h : P sz GF .expr 60 X = .ok (n, r)) : prog sz (g + 1) X = if r = [] then .ok () else fail sz r := by
  show (if sees wEffect X = true then _ else (P sz GF .expr 60 X).bind fun x => if x.2 = [] then .ok () else fail sz x.2) = _
  rw [iff_f h0, bind_ok h]
theorem prog_bad (h0 : sees wEffect X = false) (h : P sz GF .expr 60 X = .bad e) : prog sz (g + 1) X = .bad e := by
  show (if sees wEffect X = true then _ else (P sz GF .expr 60 X).bind fun x => if x.2 = [] then .ok () else fail sz x.2) = _
  rw [iff_f h0, bind_bad h]
theorem rdg_of {cs : Cs} {R : Out (List Tk)} (hl : cs.length ≤ 10000) (h : T cs 0 R) : rdg cs = R.bind fun ts => prog cs.length 9 ts := by
  unfold rdg
  rw [if_neg (by omega), h _ (Nat.lt_succ_self _)]
theorem len_le : ∀ t : Tr, t.cs.length + 27 ≤ 36 * 3 ^ t.dep
  | .atm i => by
    have h : ∀ i : Fin 8, (Tr.atm i).cs.length ≤ 9 := by decide
    have := h i
    show _ ≤ 36 * 3 ^ 0
    omega
  | .par t => by have := len_le t; have l : (Tr.par t).cs.length = t.cs.length + 2 := by simp [Tr.cs]
                 rw [l]; show _ ≤ 36 * 3 ^ (t.dep + 1); rw [Nat.pow_succ]; omega
  | .fst t => by have := len_le t; have l : (Tr.fst t).cs.length = t.cs.length + 6 := by simp [Tr.cs]
                 rw [l]; show _ ≤ 36 * 3 ^ (t.dep + 1); rw [Nat.pow_succ]; omega
  | .let_ t u => by
    have a := len_le t; have b := len_le u
    have c := Nat.pow_le_pow_right (show 0 < 3 by decide) (Nat.le_max_left t.dep u.dep)
    have d := Nat.pow_le_pow_right (show 0 < 3 by decide) (Nat.le_max_right t.dep u.dep)
    have l : (Tr.let_ t u).cs.length = t.cs.length + u.cs.length + 14 := by simp [Tr.cs]; omega
    rw [l]; show _ ≤ 36 * 3 ^ (max t.dep u.dep + 1); rw [Nat.pow_succ]; omega
  | .if_ t u => by
    have a := len_le t; have b := len_le u
    have c := Nat.pow_le_pow_right (show 0 < 3 by decide) (Nat.le_max_left t.dep u.dep)
    have d := Nat.pow_le_pow_right (show 0 < 3 by decide) (Nat.le_max_right t.dep u.dep)
    have l : (Tr.if_ t u).cs.length = t.cs.length + u.cs.length + 18 := by simp [Tr.cs]; omega
    rw [l]; show _ ≤ 36 * 3 ^ (max t.dep u.dep + 1); rw [Nat.pow_succ]; omega
  | .han t u => by
    have a := len_le t; have b := len_le u
    have c := Nat.pow_le_pow_right (show 0 < 3 by decide) (Nat.le_max_left t.dep u.dep)
    have d := Nat.pow_le_pow_right (show 0 < 3 by decide) (Nat.le_max_right t.dep u.dep)
    have l : (Tr.han t u).cs.length = t.cs.length + u.cs.length + u.cs.length + 53 := by simp [Tr.cs]; omega
    rw [l]; show _ ≤ 36 * 3 ^ (max t.dep u.dep + 1); rw [Nat.pow_succ]; omega
  | .op i t u => by
    have a := len_le t; have b := len_le u
    have c := Nat.pow_le_pow_right (show 0 < 3 by decide) (Nat.le_max_left t.dep u.dep)
    have d := Nat.pow_le_pow_right (show 0 < 3 by decide) (Nat.le_max_right t.dep u.dep)
    have l : (Tr.op i t u).cs.length = t.cs.length + (ops[i.val]).length + u.cs.length + 2 := by simp [Tr.cs]; omega
    have k : ∀ i : Fin 5, (ops[i.val]).length ≤ 4 := by decide
    have := k i
    rw [l]; show _ ≤ 36 * 3 ^ (max t.dep u.dep + 1); rw [Nat.pow_succ]; omega
  | .app t u => by
    have a := len_le t; have b := len_le u
    have c := Nat.pow_le_pow_right (show 0 < 3 by decide) (Nat.le_max_left t.dep u.dep)
    have d := Nat.pow_le_pow_right (show 0 < 3 by decide) (Nat.le_max_right t.dep u.dep)
    have l : (Tr.app t u).cs.length = t.cs.length + u.cs.length + 4 := by simp [Tr.cs]; omega
    rw [l]; show _ ≤ 36 * 3 ^ (max t.dep u.dep + 1); rw [Nat.pow_succ]; omega
theorem len_945 (t : Tr) (h : t.dep ≤ 3) : t.cs.length ≤ 945 := by
  have a := len_le t
  have c := Nat.pow_le_pow_right (show 0 < 3 by decide) h
  have : (3 : Nat) ^ 3 = 27 := by decide
  omega
theorem pre_ok (ts rs : List Tk) : Out.pre ts (.ok rs) = .ok (ts ++ rs) := rfl
theorem pre_bad (ts : List Tk) (e : Er) : Out.pre ts (.bad e) = .bad e := rfl
theorem eff_tr (t : Tr) (p : Nat) (r : List Tk) : sees wEffect (t.toks p ++ r) = false := by
  cases t with
  | atm i => rcases fin8 i with rfl | rfl | rfl | rfl | rfl | rfl | rfl | rfl <;> rfl
  | _ => rfl
section
variable {t : Tr} (h : t.dep ≤ 3)
include h
theorem ex_tr {s : Nat} {r : List Tk} {p g d : Nat} (hg : 84 ≤ g) (hd : 14 ≤ d) (hf : folE r = true) : P s g .expr d (t.toks p ++ r) = .ok (t.dp, r) :=
  (P_tr t (by omega)).ex (by omega) (by omega) hf
theorem pre_tr {s : Nat} {r : List Tk} {p g d : Nat} (hg : 80 ≤ g) (hd : 13 ≤ d) (hf : begA r = false) : P s g .pre d (t.toks p ++ r) = .ok (t.dp, r) :=
  P_tr t (by omega) _ _ _ _ (by omega) (by omega) hf

omit h in
theorem T_tr0 (t : Tr) {s : Cs} {R : Out (List Tk)} (hs : Fol s) (z : T s t.cs.length R) : T (t.cs ++ s) 0 (Out.pre (t.toks 0) R) := T_tr t hs (by rw [Nat.zero_add]; exact z)
omit h in
theorem rdg_tr (t : Tr) {s : Cs} {R : Out (List Tk)} (hl : t.cs.length + s.length ≤ 10000) (hs : Fol s) (z : T s t.cs.length R) : rdg (t.cs ++ s) = (Out.pre (t.toks 0) R).bind fun ts => prog (t.cs.length + s.length) 9 ts := by
  rw [rdg_of (by rw [List.length_append]; exact hl) (T_tr0 t hs z), List.length_append]
theorem law_good : rdg t.cs = .ok () := by
  have l := len_945 t h
  have q := rdg_tr t (s := []) (by simp; omega) True.intro (T_nil _)
  rw [List.append_nil] at q
  rw [q]
  show prog _ 9 (t.toks 0 ++ []) = _
  rw [prog_expr (eff_tr t _ _) (ex_tr h (by decide) (by decide) rfl)]
  rfl
/-- behind a drawn text stands what fits no more -/
theorem law_behind {s : Cs} {a : Tk} {r : List Tk} (hs : Fol s) (hl : s.length ≤ 100) (z : T s t.cs.length (Out.pre (a :: r) (.ok []))) (hf : folE (a :: r) = true) : rdg (t.cs ++ s) = .bad (.mal a.p) := by
  have l := len_945 t h
  rw [rdg_tr t (by omega) hs z]
  show prog _ 9 (t.toks 0 ++ ((a :: r) ++ [])) = _
  rw [List.append_nil, prog_expr (eff_tr t _ _) (ex_tr h (by decide) (by decide) hf)]
  rfl
theorem law_close : rdg (t.cs ++ [32, 41]) = .bad (.mal (t.cs.length + 1)) :=
  law_behind h (fol32 _) (by decide) (a := sg sRp (t.cs.length + 1)) (r := []) (T_sp rfl (T_tk rfl rfl rfl (T_end (T_nil _) rfl))) rfl
/-- a token that is not well formed -/
theorem law_lex {s : Cs} {e : Er} (hs : Fol s) (hl : s.length ≤ 100) (z : T s t.cs.length (.bad e)) : rdg (t.cs ++ s) = .bad e := by
  have l := len_945 t h
  rw [rdg_tr t (by omega) hs z]
  rfl
theorem law_dollar : rdg (t.cs ++ [32, 36, 32, 49]) = .bad (.mal (t.cs.length + 1)) := law_lex h (fol32 _) (by decide) (T_sp rfl (T_bad rfl rfl))
theorem law_lead : rdg (t.cs ++ [32, 42, 32, 48, 55]) = .bad (.mal (t.cs.length + 3)) :=
  law_lex h (fol32 _) (by decide) (T_sp rfl (T_tk (ts := []) rfl rfl rfl (T_end (p := t.cs.length + 1 + 1) (T_sp rfl (T_bad rfl rfl)) rfl)))
theorem law_3a : rdg (t.cs ++ [32, 42, 32, 51, 97]) = .bad (.mal (t.cs.length + 3)) :=
  law_lex h (fol32 _) (by decide) (T_sp rfl (T_tk (ts := []) rfl rfl rfl (T_end (p := t.cs.length + 1 + 1) (T_sp rfl (T_bad rfl rfl)) rfl)))
theorem law_big : rdg (t.cs ++ [32, 42, 32, 50, 49, 52, 55, 52, 56, 51, 54, 52, 56]) = .bad (.mal (t.cs.length + 3)) :=
  law_lex h (fol32 _) (by decide) (T_sp rfl (T_tk (ts := []) rfl rfl rfl (T_end (p := t.cs.length + 1 + 1) (T_sp rfl (T_bad rfl rfl)) rfl)))
theorem law_long : rdg (t.cs ++ ([32, 60, 32] ++ List.replicate 21 97)) = .bad (.mal (t.cs.length + 3)) :=
  law_lex h (fol32 _) (by decide) (T_sp rfl (T_tk (ts := []) rfl rfl rfl (T_end (p := t.cs.length + 1 + 1) (T_sp rfl (T_bad rfl rfl)) rfl)))
theorem law_most : rdg (t.cs ++ [32, 42, 32, 50, 49, 52, 55, 52, 56, 51, 54, 52, 55]) = .ok () := by
  have l := len_945 t h
  rw [rdg_tr t (s := [32, 42, 32, 50, 49, 52, 55, 52, 56, 51, 54, 52, 55]) (R := Out.pre [sg sStr (t.cs.length + 1), nu 2147483647 (t.cs.length + 3)] (.ok [])) (by simp; omega) (fol32 _) (T_sp rfl (T_tk rfl rfl rfl (T_sp rfl (T_tk rfl rfl rfl (T_end (T_nil _) rfl)))))]
  show prog (t.cs.length + 13) 9 (t.toks 0 ++ [sg sStr (t.cs.length + 1), nu 2147483647 (t.cs.length + 3)]) = _
  have b := dp_le t
  have z : P (t.cs.length + 13) GF .expr 60 (t.toks 0 ++ [sg sStr (t.cs.length + 1), nu 2147483647 (t.cs.length + 3)]) = .ok (1 + max t.dp 1, []) := by
    refine L_expr (g := 195) (d := 59) (L_cmp (L_add (L_star (g := 194) (pre_tr h (by decide) (by decide) rfl) (Y := [nu 2147483647 (t.cs.length + 3)]) (m := 1) rfl rfl (by omega) (by decide)) rfl) rfl) (kw_tr t _ _)
  rw [prog_expr (eff_tr t _ _) z]
  rfl
theorem law_plus : rdg (t.cs ++ [32, 43]) = .bad (.mal (t.cs.length + 2)) := by
  have l := len_945 t h
  rw [rdg_tr t (s := [32, 43]) (R := Out.pre [sg sPls (t.cs.length + 1)] (.ok [])) (by simp; omega) (fol32 _) (T_sp rfl (T_tk rfl rfl rfl (T_end (T_nil _) rfl)))]
  show prog (t.cs.length + 2) 9 (t.toks 0 ++ [sg sPls (t.cs.length + 1)]) = _
  have z : P (t.cs.length + 2) GF .expr 60 (t.toks 0 ++ [sg sPls (t.cs.length + 1)]) = .bad (.mal (t.cs.length + 2)) := by
    refine B_expr (B_cmp ?_) (kw_tr t _ _)
    have m := L_mul (g := 195) (pre_tr h (s := t.cs.length + 2) (p := 0) (r := [sg sPls (t.cs.length + 1)]) (d := 59) (by decide) (by decide) rfl) rfl
    show P (t.cs.length + 2) 198 .add 59 _ = _
    rw [P_add, bind_ok m]
    rfl
  exact prog_bad (eff_tr t _ _) z
theorem law_open : rdg ([40, 32] ++ t.cs) = .bad (.mal (t.cs.length + 2)) := by
  have l := len_945 t h
  have ht : T (t.cs ++ []) 2 (Out.pre (t.toks 2) (.ok [])) := T_tr t True.intro (T_nil _)
  rw [List.append_nil] at ht
  have z : T ([40, 32] ++ t.cs) 0 (Out.pre [sg sLp 0] (Out.pre (t.toks 2) (.ok []))) := T_tk rfl rfl rfl (T_sp rfl (T_end ht rfl))
  rw [rdg_of (by rw [List.length_append]; simp; omega) z]
  have e : ([40, 32] ++ t.cs).length = t.cs.length + 2 := by simp
  rw [e]
  show prog (t.cs.length + 2) 9 (sg sLp 0 :: (t.toks 2 ++ [])) = _
  have a : P (t.cs.length + 2) 200 .expr 60 (sg sLp 0 :: (t.toks 2 ++ [])) = .bad (.mal (t.cs.length + 2)) := by
    exact B_expr (B_cmp (B_add (B_mul (B_open (g := 193) (d := 58) (ex_tr h (by decide) (by decide) rfl))))) rfl
  exact prog_bad rfl a
theorem law_fun : rdg ([102, 117, 110, 32, 120, 32, 61, 32] ++ t.cs) = .bad (.mal 6) := by
  have l := len_945 t h
  have ht : T (t.cs ++ []) 8 (Out.pre (t.toks 8) (.ok [])) := T_tr t True.intro (T_nil _)
  rw [List.append_nil] at ht
  have z : T ([102, 117, 110, 32, 120, 32, 61, 32] ++ t.cs) 0 (Out.pre [wd wFun 0, nm [120] 4, sg sEq 6] (Out.pre (t.toks 8) (.ok []))) :=
    T_tk rfl rfl rfl (T_sp rfl (T_tk rfl rfl rfl (T_sp rfl (T_tk rfl rfl rfl (T_sp rfl (T_end ht rfl))))))
  rw [rdg_of (by rw [List.length_append]; simp; omega) z]
  rfl
theorem law_let : rdg ([108, 101, 116, 32, 105, 110, 32, 61, 32, 49, 32, 105, 110, 32] ++ t.cs) = .bad (.mal 4) := by
  have l := len_945 t h
  have ht : T (t.cs ++ []) 14 (Out.pre (t.toks 14) (.ok [])) := T_tr t True.intro (T_nil _)
  rw [List.append_nil] at ht
  have z : T ([108, 101, 116, 32, 105, 110, 32, 61, 32, 49, 32, 105, 110, 32] ++ t.cs) 0 (Out.pre [wd wLet 0, wd wIn 4, sg sEq 7, nu 1 9, wd wIn 11] (Out.pre (t.toks 14) (.ok []))) :=
    T_tk rfl rfl rfl (T_sp rfl (T_tk rfl rfl rfl (T_sp rfl (T_tk rfl rfl rfl (T_sp rfl (T_tk rfl rfl rfl (T_sp rfl (T_tk rfl rfl rfl (T_sp rfl (T_end ht rfl))))))))))
  rw [rdg_of (by rw [List.length_append]; simp; omega) z]
  rfl
theorem law_effect : rdg ([101, 102, 102, 101, 99, 116, 32, 111, 32, 58, 32, 105, 110, 116, 32, 45, 62, 32, 98, 111, 111, 108, 59, 32] ++ t.cs) = .ok () := by
  have l := len_945 t h
  have ht : T (t.cs ++ []) 24 (Out.pre (t.toks 24) (.ok [])) := T_tr t True.intro (T_nil _)
  rw [List.append_nil] at ht
  have z : T ([101, 102, 102, 101, 99, 116, 32, 111, 32, 58, 32, 105, 110, 116, 32, 45, 62, 32, 98, 111, 111, 108, 59, 32] ++ t.cs) 0
      (Out.pre [wd wEffect 0, nm [111] 7, sg sCol 9, wd wInt 11, sg sArr 15, wd wBool 18, sg sSem 22] (Out.pre (t.toks 24) (.ok []))) :=
    T_tk rfl rfl rfl (T_sp rfl (T_tk rfl rfl rfl (T_sp rfl (T_tk rfl rfl rfl (T_sp rfl (T_tk rfl rfl rfl (T_sp rfl (T_tk rfl rfl rfl (T_sp rfl (T_tk rfl rfl rfl (T_tk rfl rfl rfl (T_sp rfl (T_end ht rfl)))))))))))))
  rw [rdg_of (by rw [List.length_append]; simp; omega) z]
  generalize ([101, 102, 102, 101, 99, 116, 32, 111, 32, 58, 32, 105, 110, 116, 32, 45, 62, 32, 98, 111, 111, 108, 59, 32] ++ t.cs).length = s
  show prog s 8 (t.toks 24 ++ []) = _
  rw [prog_expr (eff_tr t _ _) (ex_tr h (by decide) (by decide) rfl)]
  rfl
theorem law_nosemi : ∃ k, rdg ([101, 102, 102, 101, 99, 116, 32, 111, 32, 58, 32, 105, 110, 116, 32, 45, 62, 32, 98, 111, 111, 108, 32] ++ t.cs ++ [32, 59]) = .bad (.mal k) := by
  have l := len_945 t h
  have ht : T (t.cs ++ [32, 59]) 23 (Out.pre (t.toks 23) (Out.pre [sg sSem (23 + t.cs.length + 1)] (.ok []))) := T_tr t (fol32 _) (T_sp rfl (T_tk rfl rfl rfl (T_end (T_nil _) rfl)))
  have z : T ([101, 102, 102, 101, 99, 116, 32, 111, 32, 58, 32, 105, 110, 116, 32, 45, 62, 32, 98, 111, 111, 108, 32] ++ (t.cs ++ [32, 59])) 0
      (Out.pre [wd wEffect 0, nm [111] 7, sg sCol 9, wd wInt 11, sg sArr 15, wd wBool 18] (Out.pre (t.toks 23) (Out.pre [sg sSem (23 + t.cs.length + 1)] (.ok [])))) :=
    T_tk rfl rfl rfl (T_sp rfl (T_tk rfl rfl rfl (T_sp rfl (T_tk rfl rfl rfl (T_sp rfl (T_tk rfl rfl rfl (T_sp rfl (T_tk rfl rfl rfl (T_sp rfl (T_tk rfl rfl rfl (T_sp rfl (T_end ht rfl))))))))))))
  rw [List.append_assoc, rdg_of (by simp only [List.length_append]; simp; omega) z]
  generalize ([101, 102, 102, 101, 99, 116, 32, 111, 32, 58, 32, 105, 110, 116, 32, 45, 62, 32, 98, 111, 111, 108, 32] ++ (t.cs ++ [32, 59])).length = s
  show ∃ k, skip s sSem (t.toks 23 ++ [sg sSem (23 + t.cs.length + 1)]) (fun r => prog s 8 r) = _
  have first : ∀ (p : Nat) (r : List Tk), ∃ a ts, t.toks p ++ r = a :: ts ∧ sees sSem (a :: ts) = false := fun p r => by
    cases t with
    | atm i => rcases fin8 i with rfl | rfl | rfl | rfl | rfl | rfl | rfl | rfl <;> exact ⟨_, _, rfl, rfl⟩
    | _ => exact ⟨_, _, rfl, rfl⟩
  obtain ⟨a, ts, e, f⟩ := first 23 [sg sSem (23 + t.cs.length + 1)]
  rw [e]
  refine ⟨a.p, ?_⟩
  unfold skip
  rw [iff_f f]
  rfl
end
end Afd

/-! Me: the written texts, by the kernel. -/
namespace Afd
/-! ### written texts -/
theorem law_empty : rdg [] = .bad (.mal 0) := by decide +kernel
theorem law_eqeq : rdg (cs "1 == 2 == 3") = .bad (.mal 7) := by decide +kernel
theorem law_handle : rdg (cs "handle 1 { o y k => 1 }") = .bad (.mal 11) := by decide +kernel
theorem law_d1 : rdg (cs "effect o int -> bool; 1") = .bad (.mal 9) := by decide +kernel
theorem law_d2 : rdg (cs "effect if : int -> int; 1") = .bad (.mal 7) := by decide +kernel
theorem law_d3 : rdg (cs "effect o : (int -> bool); 1") = .bad (.mal 16) := by decide +kernel
theorem law_d4 : rdg (cs "effect o : int -> x; 1") = .bad (.mal 18) := by decide +kernel
theorem law_d5 : rdg (cs "effect o : int -> int;") = .bad (.mal 22) := by decide +kernel
theorem law_spaces : rdg ([49] ++ List.replicate 9999 32) = .ok () := by
  have z : T ([49] ++ List.replicate 9999 32) 0 (Out.pre [nu 1 0] (.ok [])) := by
    refine T_tk rfl ?_ rfl (n := 1) (T_end (p := 1) ?_ rfl)
    · rw [show List.replicate 9999 32 = 32 :: List.replicate 9998 32 from rfl]; rfl
    · have q := T_sps (cs := []) (R := .ok []) 9999 1 (T_nil _)
      rw [List.append_nil] at q
      exact q
  have e : ([49] ++ List.replicate 9999 32).length = 10000 := by rw [List.length_append, List.length_replicate]; rfl
  rw [rdg_of (by rw [e]; decide) z]
  rw [e]
  rfl
theorem law_toolong : rdg ([49] ++ List.replicate 10000 32) = .bad .txt := by
  unfold rdg
  have e : ([49] ++ List.replicate 10000 32).length = 10001 := by rw [List.length_append, List.length_replicate]; rfl
  rw [if_pos (by rw [e]; decide)]
def rep (n : Nat) (s : Cs) : Cs := (List.replicate n s).flatten
def good (b : Bool) : Out Unit := if b then .ok () else .bad .dep
theorem law_c1 : ∀ m < 12, rdg (rep (24 + m) ([40]) ++ [120] ++ rep (24 + m) ([41])) = good (decide (24 + m < 30)) := by decide +kernel
theorem law_c2 : ∀ m < 12, rdg (rep (24 + m + 30) ([110, 111, 116, 32]) ++ [120]) = good (decide (24 + m < 29)) := by decide +kernel
theorem law_c3 : ∀ m < 12, rdg (rep (24 + m + 30) ([97, 115, 107, 32, 111, 32]) ++ [120]) = good (decide (24 + m < 29)) := by decide +kernel
theorem law_c4 : ∀ m < 12, rdg ([49] ++ rep (24 + m + 30) ([32, 43, 32, 49])) = good (decide (24 + m < 30)) := by decide +kernel
theorem law_c5 : ∀ m < 12, rdg ([102] ++ rep (24 + m + 30) ([32, 120])) = good (decide (24 + m < 30)) := by decide +kernel
theorem law_c6 : ∀ m < 12, rdg ([101, 102, 102, 101, 99, 116, 32, 111, 32, 58, 32] ++ (rep (24 + m + 30) ([40, 105, 110, 116, 44, 32]) ++ [98, 111, 111, 108] ++ rep (24 + m + 30) ([41])) ++ [32, 45, 62, 32, 105, 110, 116, 59, 32, 49]) = good (decide (24 + m < 30)) := by decide +kernel
end Afd

/-! Ex: an own error over an own class over ValueError, whose __init__ says super().__init__(text) and keeps one field. -/
namespace PySem
namespace AfX
open PySem.W PySem.Calls PyProof.Rows PySem.HandSPX
def iA (fld : Str) (p1 p2 : Pos) : Arguments := { posonlyargs := [], args := [{ arg := "self", annotation := none, pos := p1 }, { arg := fld, annotation := none, pos := p2 }], vararg := none, kwonlyargs := [], kw_defaults := [], kwarg := none, defaults := [] }
def iB (msg fld : Str) (q1 q2 q3 q4 q5 q6 q7 q8 q9 q10 : Pos) : List Stmt :=
  [.Expr (.Call (.Attribute (.Call (.Name "super" q1) [] [] q2) "__init__" q3) [.Constant (.str msg) 0 q4] [] q5) q6, .Assign [.Attribute (.Name "self" q7) fld q8] (.Name fld q9) q10]
def iS (fld : Str) : Scope := { kind := .function, names := [(PySem.Str.ofString "self", .local), (fld, .local), (PySem.Str.ofString "__class__", .free), (PySem.Str.ofString "super", .globalImplicit)], isGenerator := false, isCoroutine := false, more := [] }
/-- what the written part says of the class at C and of its __init__ -/
structure ErrTxt (P : Program) (K : Frag) (mg : Str → Option Value) (nmC qual msg fld : Str) (C fI cc cda : Addr) : Prop where
  gC : mg nmC = some (.ref C)
  cls : ∃ nm q N bs bm sn sub ab col dd k0 k1 k2 k3 k5, K.lookup C = some (excClassObj nm q C N bs bm true sn sub ab col dd k0 k1 k2 k3 k5 "ValueError.__new__") ∧ refsVE bm = true
  sa : findIn K (.ref C) "__setattr__" = some (some (.builtin "object.__setattr__"))
  ga : findIn K (.ref C) "__getattribute__" = some (some (.builtin "BaseException.__getattribute__"))
  gg : findIn K (.ref C) "__getattr__" = some none
  noN : findIn K (.ref C) fld = some none
  iC : findIn K (.ref C) "__init__" = some (some (.ref fI))
  tC : typeIn K (.ref fI) = some (.type "function")
  kC : keepIn K (.ref C) = true
  exC : subIn K (.ref C) (.type "BaseException") = some true
  tyC : typeIn K (.ref C) = some (.type "type")
  hdC : hasDictIn K C = true
  sup : ks_superIn K C C "__init__" = some (some (.builtin "ValueError.__init__"))
  subV : subIn K (.ref C) (.type "ValueError") = some true
  self : mroIn K C (Value.ref C) = some true
  opq : nsIn K cStatics "thirdparty.any" = some none
  nosup : mg "super" = none
  file : ∃ ccl cdd vs ccs file tf, K.lookup cda = some ⟨ccl, cdd, .fields vs, ccs⟩ ∧ vs[2]? = some (.str file tf) ∧ ((P.main.file : Str) == file) = true
  top : (P.main.scope.names.lookup ("super" : Str)).isSome = false
  cell : ∃ cl cld csl, K.lookup cc = some ⟨cl, cld, .cell (some (.ref C)), csl⟩
  fn : ∃ (oc : Value) (od : Option Addr) (doc pm : Value) (an : Option Addr) (ct : Value) (osl : Array (Option Value)) (p1 p2 q1 q2 q3 q4 q5 q6 q7 q8 q9 q10 : Pos),
    K.lookup fI = some ⟨oc, od, .func (ksFn "__init__" qual (iA fld p1 p2) (iB msg fld q1 q2 q3 q4 q5 q6 q7 q8 q9 q10) (iS fld) .none .none doc pm an (.ref cda) ct cc), osl⟩ ∧ codeIn K (.ref cda) qual = true ∧ (q3.endLine == q5.line) = true
theorem one_size (v : Value) : [v].length ≤ sizeLine := by
  rw [sizeLine_eq]
  exact (by decide : 1 ≤ 16777216)
/-- what __init__ leaves of a fresh exception at x -/
structure InitEnd (h h' : Heap) (x C dx t1 : Addr) (fld : Str) (v : Value) : Prop where
  keep : ∀ b o, b ≠ x → h.get? b = some o → h'.get? b = some o
  obj : h'.get? x = some { cls := .ref C, dict := some dx, data := .fields #[.ref t1, .none, .none, .none, .bool false, .none] }
  dbig : h.objs.size ≤ dx
  dne : dx ≠ x
  ns : h'.Ns1 dx (fun y => if y = fld then some v else none)
/-- a made error -/
structure OwnMade (h h' : Heap) (e C d : Addr) (fld : Str) (v : Value) : Prop where
  keep : ∀ b o, h.get? b = some o → h'.get? b = some o
  new : h.objs.size ≤ e
  obj : ∃ oe vs, h'.get? e = some oe ∧ oe.cls = .ref C ∧ oe.dict = some d ∧ oe.data = .fields vs ∧ vs[1]? = some .none
  dbig : h.objs.size ≤ d
  dne : d ≠ e
  ns : h'.Ns1 d (fun y => if y = fld then some v else none)
section
variable {prog : Program} {w : World} {A : Around} {E : Value → Shared → Prop} {R : Result → Shared → Prop} {s : Shared} {K : Frag} {mg : Str → Option Value} {nmC qual msg fld : Str} {C fI cc cda : Addr}
/-- the built-in __init__ bound to the error, called -/
theorem call_bw {h : Heap} {g : Array GenState} {d : Drawn} {t : Nat} {os : OsState} {nm q : Str} {N : Addr} {bs bm : List Value} {hdct : Bool} {sn : List Str} {sub : List Value} {ab : Bool} {col : Option Bool} {dd : Option Addr} {k0 k1 k2 k3 k5 : Option Value}
    {u e t0 : Addr} {rest : List Value} {Q : Value → Shared → Prop}
    (hC : h.get? C = some (excClassObj nm q C N bs bm hdct sn sub ab col dd k0 k1 k2 k3 k5 "ValueError.__new__")) (he : h.get? e = some (excO C t0)) (hu : h.get? u = some (kxs_mw "ValueError.__init__" e)) (hrest : rest.length ≤ sizeLine)
    (hq : ∀ h' t1, (∀ b o, b ≠ e → h.get? b = some o → h'.get? b = some o) → h'.get? e = some (excO C t1) → Q .none ⟨h', g, d, t, os⟩) :
    wpAny (model prog w) A (call (Value.ref u) rest) Q E ⟨h, g, d, t, os⟩ := by
  have kd : ((kxs_mw "ValueError.__init__" e).cls == Value.type "method" || (kxs_mw "ValueError.__init__" e).cls == Value.type "builtin_function_or_method" || (kxs_mw "ValueError.__init__" e).cls == Value.type "method-wrapper") = true := by
    show (Value.type "method-wrapper" == Value.type "method" || Value.type "method-wrapper" == Value.type "builtin_function_or_method" || true) = true
    rw [Bool.or_true]
  refine wpAny_call (codeAny_of_tree (show wpAny _ A.in1 (callAny (.ref u) ⟨rest, []⟩) _ _ _ from ?_))
  unfold callAny
  refine wpAny_bind (wpAny_load hu (W.KFB.if_so kd ?_))
  refine wpAny_bind (check_bound_init F.excBase_ValueError.toExcCallFacts hC he rfl ?_)
  refine wpAny_bind <| wpAny_pure (wpAny_pure ?_)
  refine ⟨plainId_quiet F.excBase_ValueError.init.plain _, codeAny_builtin F.excBase_ValueError.initEntry ?_⟩
  refine exc_init_tree (cls := .ref C) (t0 := t0) (dv := none) (c2 := .none) (c3 := .none) (b4 := .bool false) he hrest fun h' k' e' t' => ?_
  exact hq h' _ k' e'
theorem super_eq {env : Env} {msg : Str} {q1 q2 q3 q4 q5 : Pos} (hln : (q3.endLine == q5.line) = true) : eval (.Call (.Attribute (.Call (.Name "super" q1) [] [] q2) "__init__" q3) [.Constant (.str msg) 0 q4] [] q5) env = (do
      let ov ← attributeBase (.Call (.Name "super" q1) [] [] q2) "__init__" env (eval (.Call (.Name "super" q1) [] [] q2) env)
      standAt q3.atName
      let (f, first) ← holding [ov] (getMethod ov "__init__" (do return (← importBound (.Call (.Name "super" q1) [] [] q2) env).getD true))
      callWith q5 f first (backTo q5 (starEach [.Constant (.str msg) 0 q4] env)) []) := by
  have hp : methodCallPos true (.Call (.Name "super" q1) [] [] q2) env q3 q5 = pure q5 := by
    unfold methodCallPos
    exact if_pos (by rw [hln]; rfl)
  show (attributeBase (.Call (.Name "super" q1) [] [] q2) "__init__" env (eval (.Call (.Name "super" q1) [] [] q2) env) >>= fun ov => standAt q3.atName >>= fun _ =>
    holding [ov] (getMethod ov "__init__" (do return (← importBound (.Call (.Name "super" q1) [] [] q2) env).getD true)) >>= fun x => methodCallPos true (.Call (.Name "super" q1) [] [] q2) env q3 q5 >>= fun cp => callWith cp x.1 x.2 (backTo q5 (starEach [.Constant (.str msg) 0 q4] env)) []) = _
  rw [hp]
  rfl
theorem err_init (T : ErrTxt prog K mg nmC qual msg fld C fI cc cda) (hf : fld = "at" ∨ fld = "name") {x t0 : Addr} {v : Value} (X : K.In s.heap) (G : s.heap.Ns mainGlobals mg) (B : ∃ mb, s.heap.Ns builtinsNs mb ∧ ∀ x : Str, x ≠ "__name__" → mb x = bootBuiltins x) (hlim : s.heap.NoLimit)
    (hx : s.heap.get? x = some (excO C t0)) (hnx : K.lookup x = none) (hroom : A.depth < recursionLimit)
    (hq : ∀ h' tk dx t1, InitEnd s.heap h' x C dx t1 fld v → R (.ok (.ret .none)) { s with heap := h', toks := tk }) :
    codeAny (model prog w) A (.call (.ref fI) ⟨[.ref x, v], []⟩) R s := by
  obtain ⟨oc, od, doc, pm, an, ct, osl, p1, p2, q1, q2, q3, q4, q5, q6, q7, q8, q9, q10, ho, hcd, hln⟩ := T.fn
  obtain ⟨nm, q, N, bs, bm, sn, sub, ab, col, dd, k0, k1, k2, k3, k5, hC, hbm⟩ := T.cls
  obtain ⟨ccl, cdd, vs, ccs, file, tf, hcode, hvs, hfile⟩ := T.file
  obtain ⟨cl, cld, csl, hcell⟩ := T.cell
  obtain ⟨mb, hB, hmb⟩ := B
  have hcl : clsIn K C = some { name := nm, bases := bs, mro := .ref C :: bm, ns := N, qualname := q, hasDict := true, slotNames := sn, subclasses := sub, abstract := ab, collection := col, hasDel := false } := by unfold clsIn; rw [hC] <;> rfl
  have fl : fld ≠ "self" ∧ (iS fld).names.lookup fld = some .local ∧ (iS fld).names.lookup ("self" : Str) = some .local ∧ (iS fld).names.lookup ("__class__" : Str) = some .free ∧ (iS fld).names.lookup ("super" : Str) = some .globalImplicit ∧ (∀ x ∈ (iS fld).names, x.2 ≠ .cell) ∧ (fld == ("__debug__" : Str)) = false := by
    rcases hf with rfl | rfl <;> decide +kernel
  obtain ⟨f1, f2, f3, f4, f5, f6, f7⟩ := fl
  refine ks_codeAny_call_defAt (fd := ksFn "__init__" qual (iA fld p1 p2) (iB msg fld q1 q2 q3 q4 q5 q6 q7 q8 q9 q10) (iS fld) .none .none doc pm an (.ref cda) ct cc) (body := iB msg fld q1 q2 q3 q4 q5 q6 q7 q8 q9 q10) (binds := [("self", .ref x), (fld, v)]) hroom (X _ _ ho) rfl hlim (codeRec_of X hcd) rfl ?hb f6 ?hl (fun h₁ hns k => ?_)
  case hb => exact BindsTo.of_eq (by rcases hf with rfl | rfl <;> first | rfl | with_unfolding_all rfl)
  case hl =>
    intro y hy
    rcases (List.mem_cons.mp hy) with rfl | hy
    · exact f3
    · rcases (List.mem_cons.mp hy) with rfl | hy
      · exact f2
      · cases hy
  have X₁ : K.In h₁ := X.keeps k
  have hx₁ := k _ _ hx
  have lself : ([(("self" : Str), Value.ref x), (fld, v)] : List (Str × Value)).reverse.lookup ("self" : Str) = some (.ref x) := by rcases hf with rfl | rfl <;> rfl
  have lfld : ([(("self" : Str), Value.ref x), (fld, v)] : List (Str × Value)).reverse.lookup fld = some v := by rcases hf with rfl | rfl <;> rfl
  -- super().__init__(msg)
  refine ks_wpAt_execs_cons (ks_wpAt_Expr_any (ks_wpAt_MethodCall ?_ (super_eq hln)))
  refine ks_wpAt_super_base (f := fI) (cc := cda) f5 f4 (by decide) rfl (X₁ _ _ ho) rfl rfl rfl (X₁ _ _ hcode) rfl hvs hfile T.top ?_
  refine ks_loadName_global rfl f5 (loadGlobal_builtin (G.keeps k) T.nosup (hB.keeps k) ((hmb _ (by decide)).trans (by first | boot_by_name | rfl | kernel_rfl)) ⟨rfl, ?_⟩)
  refine wpAny_loadName_free rfl f4 rfl ⟨_, X₁ _ _ hcell, rfl⟩ ?_
  refine wpAny_loadName_local rfl f3 hns lself ?_
  refine ks_wpAny_isType_cls (X₁ _ _ hC) rfl ⟨rfl, ?_⟩
  refine ks_wpAny_call_super (X₁ _ _ hC) rfl hx₁ rfl (fun c z => by cases z) (looks_mroIn X₁ T.self) (fun h₂ e₂ k₂ => ?_)
  have X₂ : K.In h₂ := X₁.keeps k₂
  have hx₂ := k₂ _ _ hx₁
  have hm : alongIn K "__init__" (((Value.ref C :: bm).dropWhile (· != .ref C)).drop 1) = some (some (.builtin "ValueError.__init__")) := by
    have z := T.sup
    unfold ks_superIn at z
    rw [hcl] at z
    exact z
  have I₂ : InstAt h₂ x (excO C t0) C none := ⟨hx₂, rfl, rfl, trivial⟩
  have hI : Looks (model prog w) h₂ (isInstance (.ref x) (.type "ValueError")) true := I₂.type.andThen (looks_subIn X₂ T.subV)
  refine kxs_getMethod kxs_ValueError e₂ (looks_opaque X₂ T.opq) (l₀ := Value.ref C :: bm) (fun A Q E s k q => wpAny_bind ((looks_clsIn X₂ hcl) A _ E s k (wpAny_pure q))) rfl X₂ hm hI (ks_ne X₂ I₂ hcl) (by decide) ?_
  show wpAny _ _ (callWith _ (.ref h₂.objs.size) [] _ []) _ _ _
  refine kxs_callWith (i := "ValueError.__init__") (x := x) rfl (evalArgs_plain (Calls.spliced_cons (Calls.Constant_str (pos := q4) (k := 0) (Calls.spliced_nil ?_))))
  refine ⟨Heap.get?_push_size _ rfl, ?_⟩
  have X₃ : K.In (h₂.push (kxs_mw "ValueError.__init__" x)) := X₂.keeps fun b o z => Heap.get?_push_of_some _ z
  refine call_bw (X₃ _ _ hC) (Heap.get?_push_of_some _ hx₂) (Heap.get?_push_size _ rfl) (one_size _) fun h₄ t1 k₄ e₄ => ?_
  have kk : ∀ b o, b ≠ x → h₁.get? b = some o → h₄.get? b = some o := fun b o hb z => k₄ b o hb (Heap.get?_push_of_some _ (k₂ b o z))
  -- self.fld = fld
  show _root_.PySem.wpAt _ _ _ (execs _ _) _ _ _
  refine wpAt_of_wpAny (wpAny_execs_cons (plainObj_wpAny_Assign_Attribute ?_))
  have hns₄ : h₄.Ns s.heap.objs.size (fun y => ([(("self" : Str), Value.ref x), (fld, v)] : List (Str × Value)).reverse.lookup y) := by
    obtain ⟨oL, es, ep, hL, r⟩ := hns
    refine ⟨oL, es, ep, kk _ _ ?_ hL, r⟩
    exact Nat.ne_of_gt (Heap.lt_size hx)
  have X₄ : K.In h₄ := fun a o z => kk a o (fun y => by rw [y, hnx] at z; cases z) (X₁ a o z)
  refine wpAny_Name (wpAny_loadName_local rfl f2 hns₄ lfld ?_) f7
  refine wpAny_Name (wpAny_loadName_local rfl f3 hns₄ lself ?_) (by decide)
  refine set_plain X₄ (ox := excO C t1) (od := none) ⟨e₄, rfl, rfl, trivial⟩ T.sa ?_
  refine exc_osa X₄ e₄ hcl (show refsVE (.ref C :: bm) = true from hbm) rfl T.noN (fun h₅ tk₅ dx k₅ dn dne hx₅ hn₅ => ?_)
  show wpAny _ _ (execs _ _) _ _ _
  have z : s.heap.objs.size ≤ dx := by
    obtain ⟨oL, es, ep, hL, r⟩ := hns₄
    exact Nat.le_of_lt (Nat.lt_of_lt_of_le (Heap.lt_size hL) dn)
  exact wpAny_execs_nil (hq h₅ tk₅ dx t1 ⟨fun b o hb e => k₅ b o hb (kk b o hb (k b o e)), hx₅, z, dne, hn₅⟩)
theorem err_made (T : ErrTxt prog K mg nmC qual msg fld C fI cc cda) (hf : fld = "at" ∨ fld = "name") {v : Value} (X : K.In s.heap) (G : s.heap.Ns mainGlobals mg) (B : ∃ mb, s.heap.Ns builtinsNs mb ∧ ∀ x : Str, x ≠ "__name__" → mb x = bootBuiltins x) (hlim : s.heap.NoLimit) (hroom : A.depth + 1 < recursionLimit)
    (hq : ∀ h' tk e d, OwnMade s.heap h' e C d fld v → R (.ok (.ret (.ref e))) { s with heap := h', toks := tk }) :
    codeAny (model prog w) A (.call (.ref C) ⟨[v], []⟩) R s := by
  obtain ⟨nm, q, N, bs, bm, sn, sub, ab, col, dd, k0, k1, k2, k3, k5, hC, hbm⟩ := T.cls
  obtain ⟨mb, hB, hmb⟩ := B
  obtain ⟨hp, g, dr, tk, os⟩ := s
  have k : ∀ b o, hp.get? b = some o → ((hp.push (kdv_tup [v])).push (excO C hp.objs.size)).get? b = some o := fun b o e => Heap.get?_push_of_some _ (Heap.get?_push_of_some _ e)
  have hget : ((hp.push (kdv_tup [v])).push (excO C hp.objs.size)).get? (hp.objs.size + 1) = some (excO C hp.objs.size) := by heap_get
  have hnx : K.lookup (hp.objs.size + 1) = none := by
    cases e : K.lookup (hp.objs.size + 1) with
    | none => rfl
    | some o =>
      have z : hp.get? (hp.objs.size + 1) = some o := X _ _ e
      exact absurd (Nat.lt_of_succ_lt (Heap.lt_size z)) (Nat.lt_irrefl _)
  refine call_own F.excBase_ValueError (fun X => refsVE_contains X bm hbm) (X _ _ hC) (looks_findIn X T.iC) (fun self => bind_fn X self T.tC) (one_size v) ?_
  refine err_init (s := ⟨(hp.push (kdv_tup [v])).push (excO C hp.objs.size), g, dr, tk, os⟩) T hf (X.keeps k) (G.keeps k) ⟨mb, hB.keeps k, hmb⟩ (hlim.keeps k) hget hnx ?_ fun h' tk' dx t1 ⟨k', hx, dn, dne, hns⟩ => ?_
  · show A.depth + 1 < recursionLimit
    exact hroom
  · have old : ∀ b o, hp.get? b = some o → h'.get? b = some o := fun b o e => k' b o (Nat.ne_of_lt (Nat.lt_succ_of_lt (Heap.lt_size e))) (k b o e)
    have z : hp.objs.size + 1 + 1 ≤ dx := by
      first
        | (simpa only [Heap.size_push] using dn)
        | exact dn
        | (have q := dn; rw [Heap.size_push, Heap.size_push] at q; exact q)
    exact ⟨rfl, hq h' tk' (hp.objs.size + 1) dx ⟨old, Nat.le_succ _, ⟨_, _, hx, rfl, rfl, rfl, rfl⟩, Nat.le_trans (Nat.le_trans (Nat.le_succ _) (Nat.le_succ _)) z, dne, hns⟩⟩
end
end AfX
end PySem

/-! Ex2: raise X(e), X such an error; isinstance of a caught one. -/
namespace L2
open PySem PySem.Spec PyProof.Rows
theorem relO_fld {v : V} {v' : Value} (r : RelV v v') (k f : Str) : RelO (List.lookup f [(k, v)]) (if f = k then some v' else none) := by
  by_cases hw : f = k
  · subst hw
    rw [if_pos rfl]
    have q : List.lookup f [(f, v)] = some v := by simp [List.lookup]
    rw [q]
    exact r
  · rw [if_neg hw]
    have qw : (f == k) = false := by simpa using hw
    have q2 : List.lookup f [(k, v)] = none := by simp [List.lookup, qw]
    rw [q2]
    trivial
section
variable {X : Cx} {nmC qual msg fld : Str} {C fI cc cda : Addr}
/-- X(e) -/
def tMkErr (C : Addr) (fld : Str) (ta : TA) : St → Hp → XK → Prop := fun σ H Q => ta σ H fun vs H1 => ∃ v, vs = [v] ∧ ∀ d, H1 d = none → Q (.ref C) (some d) (upd H1 d (.xd [(fld, v)]))
theorem pmk_err {a : Expr} {ta : TA} {p pos : Pos} {k : Nat} (T : PySem.AfX.ErrTxt X.prog X.K X.mg nmC qual msg fld C fI cc cda) (hf : fld = "at" ∨ fld = "name") (hr : Room k X.A) (ha : PA X [a] ta) (hg : Gl X nmC) (hdb : (nmC == ("__debug__" : Str)) = false)
    (he : starEach (a :: []) X.env = (false, eval a X.env) :: starEach [] X.env := by rfl) (hpl : (backTo pos (starEach [] X.env)).any (·.1) = false := by rfl) :
    PMk X (.Call (.Name nmC p) [a] [] pos) (tMkErr C fld ta) := by
  intro pins s σ H Q I h
  refine wpAny_Call_Name_kw (ld_glob I hg T.gC ?_ hdb)
  refine PySem.W.callWith_K (h₀ := X.base) I.ok.mod.kin T.kC (thn (ha.run pos pins s σ H _ I h) fun us s1 hh => ?_) he hpl
  obtain ⟨vs, H1, I1, r1, v, ev, q1⟩ := hh
  subst ev
  refine ⟨I1.kIn, ?_⟩
  cases r1 with
  | cons rv rn =>
    rename_i v' us'
    cases rn
    show wpAny _ _ (call (.ref C) [v']) _ _ _
    have hlim := I1.nolimit
    obtain ⟨mb, h1b, h2b⟩ := I1.mod.blt
    have GG : s1.heap.Ns mainGlobals X.mg := I1.mod.glob.keeps I1.bk
    have BB : s1.heap.Ns builtinsNs mb := h1b.keeps I1.bk
    obtain ⟨hp, g, dr, tk, os⟩ := s1
    refine wpAny_call (PySem.AfX.err_made T hf I1.kIn GG ⟨mb, BB, h2b⟩ hlim (by have := hr.dp; omega) fun h' tk' e d M => ?_)
    show MkP X pins σ Q (.ref e) ⟨h', g, dr, tk', os⟩
    obtain ⟨oe, fv, hoe, hc, hd, hdat, h1⟩ := M.obj
    have hns := M.ns
    obtain ⟨G', g1, g2⟩ := restrict h' fun b => decide (b ≠ e)
    have gk : ∀ b, b ≠ e → G'.get? b = h'.get? b := fun b hb => g1 b (decide_eq_true hb)
    have ge : G'.get? e = none := g2 e (by simp)
    have old : ∀ b o, hp.get? b = some o → G'.get? b = some o := fun b o q => (gk b (Nat.ne_of_lt (Nat.lt_of_lt_of_le (Heap.lt_size q) M.new))).trans (M.keep b o q)
    have ob : ObjOk X.prog X.w (upd H1 d (.xd [(fld, v)])) G' d (.xd [(fld, v)]) :=
      ⟨_, hns.at (fun o q => (gk d M.dne).trans q), fun f => relO_fld rv fld f⟩
    have J : Inv X pins σ (upd H1 d (.xd [(fld, v)])) ⟨G', g, dr, tk', os⟩ := I1.laid (t' := tk') old M.dbig ob
    refine ⟨e, oe, fv, ⟨G', g, dr, tk', os⟩, _, .ref C, some d, rfl, J, fun b o q => ?_, ge, hoe, ⟨hc, hd⟩, hdat, h1, ?_, rfl, I1.bare, raises_own T.exC T.tyC, q1 d (I1.hok.fresh M.dbig)⟩
    · by_cases hb : b = e
      · have q' : G'.get? b = some o := q
        rw [hb, ge] at q'; cases q'
      · exact (gk b hb).symm.trans q
    · rw [upd_ne (Ne.symm M.dne)]
      exact I1.hok.fresh M.new
/-- raise X(e) -/
def tRaiseErr (C : Addr) (fld : Str) (W : WX) (ta : TA) : TS := fun _ σ H => tMkErr C fld ta σ H fun cls d H' => W cls d σ H'
theorem ps_raiseErr {a : Expr} {ta : TA} {W : WX} {p pos pos2 : Pos} {k : Nat} (hc : X.calm = true) (T : PySem.AfX.ErrTxt X.prog X.K X.mg nmC qual msg fld C fI cc cda) (hf : fld = "at" ∨ fld = "name") (hr : Room k X.A) (tk : Takes X W) (ha : PA X [a] ta) (hg : Gl X nmC) (hdb : (nmC == ("__debug__" : Str)) = false)
    (he : starEach (a :: []) X.env = (false, eval a X.env) :: starEach [] X.env := by rfl) (hpl : (backTo pos (starEach [] X.env)).any (·.1) = false := by rfl) :
    PS X (.Raise (some (.Call (.Name nmC p) [a] [] pos)) none pos2) (tRaiseErr C fld W ta) := ps_raise hc tk (pmk_err T hf hr ha hg hdb he hpl)
theorem errXf {P : Program} {K : PySem.W.Frag} {mg : Str → Option Value} (T : PySem.AfX.ErrTxt P K mg nmC qual msg fld C fI cc cda) : XfC K C := ⟨T.ga, T.gg, T.exC, T.hdC⟩
end
end L2

namespace L2
open PySem PySem.Spec PyProof.Rows
/-- isinstance(e, c), e the exception that the suite holds, of the class at D, its own dict at dd -/
def rIsD (K : PySem.W.Frag) (D a dd : Addr) : List V → Hp → VK → Prop := fun xs H Q => ∃ (c : V) (cv : Value) (b : Bool) (fs : List (Str × V)), xs = [.ref a, c] ∧ (∀ u, RelV c u → u = cv) ∧ PySem.W.kitOne K (.ref D) cv = some b ∧ H dd = some (.xd fs) ∧ Q (.bl b) H
theorem call_isD {X : Cx} {a D dd : Addr} {oe : Obj} {pn : List (Addr × Obj)} (C : ExcC X.K D) (hz : Zc (.ref D) (some dd) oe) (hf : ∃ vs, oe.data = .fields vs) : CallR (X.suite a ((a, oe) :: pn)) (.builtin "isinstance") (rIsD X.K D a dd) := by
  intro pins s σ H xs us Q I r h; obtain ⟨c, cv, b, fs, rfl, hcv, e, hd, q⟩ := h
  obtain ⟨u1, u2, rfl, r1, r2⟩ := vals2 r; obtain rfl : u1 = Value.ref a := r1
  obtain rfl := hcv _ r2
  have pinned := I.pin (a, oe) (List.mem_append_left _ List.mem_cons_self)
  obtain ⟨mA, hns, _⟩ := (I.hok dd _ hd : ∃ mA, s.heap.Ns1 dd mA ∧ _)
  obtain ⟨od, hod, _⟩ := lookIn_ns hns
  obtain ⟨vs, hv⟩ := hf
  have J : PySem.W.InstAt s.heap a oe D (some od) := ⟨pinned.1, hz.1, (by unfold PySem.W.notCls; rw [hv] <;> rfl), by rw [hz.2]; exact hod⟩
  obtain ⟨cd, hcd, _⟩ := PySem.W.any_some C.hd
  have hcl : (PySem.W.clsIn X.K D).isSome = true := by rw [hcd]; rfl
  have hfo : PySem.W.findObj X.K D (some od) "__class__" = some (.bind (.builtin "getset_descriptor.__get__") (.builtin "object.__class__")) := by
    unfold PySem.W.findObj
    rw [hcd, C.ha]
    simp only [Option.bind_some, C.hn, C.ht]
  refine PySem.W.kia_one (PySem.W.kitx_exc (od := some od) (ox := oe) hcl C.hg C.hk C.hs C.ha C.hn C.ht C.hm) I.kIn J e (fun z => nomatch z) fun tk => ?_
  exact ⟨.bl b, H, I.tok tk, rfl, q⟩
end L2

/-! W0: the text by places, a reader's state, the promises of its small methods. -/
namespace Af
open PySem PySem.Spec PyProof.Rows L2 Afd
/-! ### the text by places -/
def topS (i : Nat) : Stmt := PySem.Challenge.pw_askedfor_k02_texts_that_are_refused.main.body.getD i (.Pass ⟨0, 0, 0, 0⟩)
abbrev meS (j : Nat) : Stmt := inClass (topS 25) j
/-- a text by its signs -/
abbrev S (w : Cs) : Str := ⟨w.toArray⟩
theorem S_list (z : Str) : S z.cps.toList = z := by cases z; simp
theorem S_inj {a b : Cs} : decide (V.str (S a) = V.str (S b)) = decide (a = b) := by
  by_cases h : a = b
  · subst h; simp
  · have : ¬ V.str (S a) = V.str (S b) := fun z => by
      injection z with z
      injection z with z
      exact h (by simpa using congrArg Array.toList z)
    rw [decide_eq_false h, decide_eq_false this]
theorem z_ask : ("ask" : Str) = S wAsk := by decide +kernel
theorem z_bool : ("bool" : Str) = S wBool := by decide +kernel
theorem z_effect : ("effect" : Str) = S wEffect := by decide +kernel
theorem z_else : ("else" : Str) = S wElse := by decide +kernel
theorem z_false : ("false" : Str) = S wFalse := by decide +kernel
theorem z_fst : ("fst" : Str) = S wFst := by decide +kernel
theorem z_fun : ("fun" : Str) = S wFun := by decide +kernel
theorem z_handle : ("handle" : Str) = S wHandle := by decide +kernel
theorem z_if : ("if" : Str) = S wIf := by decide +kernel
theorem z_in : ("in" : Str) = S wIn := by decide +kernel
theorem z_int : ("int" : Str) = S wInt := by decide +kernel
theorem z_let : ("let" : Str) = S wLet := by decide +kernel
theorem z_not : ("not" : Str) = S wNot := by decide +kernel
theorem z_print : ("print" : Str) = S wPrint := by decide +kernel
theorem z_rec : ("rec" : Str) = S wRec := by decide +kernel
theorem z_return : ("return" : Str) = S wReturn := by decide +kernel
theorem z_snd : ("snd" : Str) = S wSnd := by decide +kernel
theorem z_then : ("then" : Str) = S wThen := by decide +kernel
theorem z_true : ("true" : Str) = S wTrue := by decide +kernel
theorem z_unit : ("unit" : Str) = S wUnit := by decide +kernel
theorem z_sFat : ("=>" : Str) = S sFat := by decide +kernel
theorem z_sArr : ("->" : Str) = S sArr := by decide +kernel
theorem z_sEqq : ("==" : Str) = S sEqq := by decide +kernel
theorem z_sLp : ("(" : Str) = S sLp := by decide +kernel
theorem z_sRp : (")" : Str) = S sRp := by decide +kernel
theorem z_sLb : ("{" : Str) = S sLb := by decide +kernel
theorem z_sRb : ("}" : Str) = S sRb := by decide +kernel
theorem z_sCom : ("," : Str) = S sCom := by decide +kernel
theorem z_sCol : (":" : Str) = S sCol := by decide +kernel
theorem z_sSem : (";" : Str) = S sSem := by decide +kernel
theorem z_sBar : ("|" : Str) = S sBar := by decide +kernel
theorem z_sEq : ("=" : Str) = S sEq := by decide +kernel
theorem z_sPls : ("+" : Str) = S sPls := by decide +kernel
theorem z_sMin : ("-" : Str) = S sMin := by decide +kernel
theorem z_sStr : ("*" : Str) = S sStr := by decide +kernel
theorem z_sLt : ("<" : Str) = S sLt := by decide +kernel
/-! ### promises by name -/
def GOk (P : Program) (w : World) (K : PySem.W.Frag) (mg : Str → Option Value) (base : Heap) (CX : CXT) (k : Nat) (x : Str) (ps : List Str) (ds : List Value) (sp : Sp) : Prop :=
  ∃ (f : Addr) (fd : FuncData), mg x = some (.ref f) ∧ PySem.W.keepIn K (.ref f) = true ∧ Binds K fd ps ds ∧ FnOk P w K mg base CX k f fd ps sp
def MOk (P : Program) (w : World) (K : PySem.W.Frag) (mg : Str → Option Value) (base : Heap) (C : Addr) (CX : CXT) (k : Nat) (x : Str) (ps : List Str) (sp : Sp) : Prop :=
  ∃ (f : Addr) (fd : FuncData), Meth K C x f ∧ Binds K fd ps [] ∧ FnOk P w K mg base CX k f fd ps sp
/-- a def of the top, a method, as the head tells them -/
def GTx (K : PySem.W.Frag) (mg : Str → Option Value) (i : Nat) (x : Str) (ps : List Str) : Prop := ∃ (f : Addr) (fd : FuncData), mg x = some (.ref f) ∧ Binds K fd ps [] ∧ Fun K x x (topS i) f fd
def MTx (K : PySem.W.Frag) (C : Addr) (j : Nat) (x qual : Str) (ps : List Str) : Prop := ∃ (f : Addr) (fd : FuncData), Meth K C x f ∧ Binds K fd ps [] ∧ Fun K x qual (meS j) f fd
/-- the errors -/
structure ETx (P : Program) (K : PySem.W.Frag) (mg : Str → Option Value) where
  CM : Addr
  CU : Addr
  fM : Addr
  cM : Addr
  dM : Addr
  fU : Addr
  cU : Addr
  dU : Addr
  mal : PySem.AfX.ErrTxt P K mg "Malformed" "Malformed.__init__" "malformed text" "at" CM fM cM dM
  unb : PySem.AfX.ErrTxt P K mg "Unbounded" "Unbounded.__init__" "limit exceeded" "name" CU fU cU dU
/-- the class Reader -/
structure RTx (K : PySem.W.Frag) (mg : Str → Option Value) (C : Addr) : Prop where
  cl : Cls K C
  nT : NoAttr K C "tokens"
  nS : NoAttr K C "size"
  nA : NoAttr K C "at"
  nD : NoAttr K C "depth"
  len : mg "len" = none

/-! ### tokens and the reader -/
def kS : TK → Str
  | .word => "word"
  | .name => "name"
  | .num => "number"
  | .sign => "sign"
def vV (t : Tk) : V := match t.k with
  | .num => .int (t.n : Int)
  | _ => .str (S t.s)
def tokV (t : Tk) : List V := [.str (kS t.k), vV t, .int (t.p : Int)]
structure ToksAt (H : Hp) (tl : Addr) (ts : List Tk) : Prop where
  small : ts.length ≤ 10000
  wf : ∀ t ∈ ts, t.k = .word → words.contains t.s = true
  lst : ∃ as : List Addr, H tl = some (.lst (as.map V.ref)) ∧ as.length = ts.length ∧ ∀ (i : Nat) (a : Addr) (t : Tk), as[i]? = some a → ts[i]? = some t → H a = some (.tup (tokV t))
structure RS where
  p : Addr
  dx : Addr
  tl : Addr
  sz : Nat
  ts : List Tk
abbrev rf (tl : Addr) (sz a d : Int) : List (Str × V) := [(("tokens" : Str), .ref tl), (("size" : Str), .int sz), (("at" : Str), .int a), (("depth" : Str), .int d)]
theorem rf_tokens (tl : Addr) (sz a d : Int) : (rf tl sz a d).lookup ("tokens" : Str) = some (.ref tl) := rfl
theorem rf_size (tl : Addr) (sz a d : Int) : (rf tl sz a d).lookup ("size" : Str) = some (.int sz) := by
  have e : (("size" : Str) == ("tokens" : Str)) = false := by decide +kernel
  simp [rf, List.lookup, e]
theorem rf_at (tl : Addr) (sz a d : Int) : (rf tl sz a d).lookup ("at" : Str) = some (.int a) := by
  have e1 : (("at" : Str) == ("tokens" : Str)) = false := by decide +kernel
  have e2 : (("at" : Str) == ("size" : Str)) = false := by decide +kernel
  simp [rf, List.lookup, e1, e2]
theorem rf_depth (tl : Addr) (sz a d : Int) : (rf tl sz a d).lookup ("depth" : Str) = some (.int d) := by
  have e1 : (("depth" : Str) == ("tokens" : Str)) = false := by decide +kernel
  have e2 : (("depth" : Str) == ("size" : Str)) = false := by decide +kernel
  have e3 : (("depth" : Str) == ("at" : Str)) = false := by decide +kernel
  simp [rf, List.lookup, e1, e2, e3]
def noF (m : Str) : Bool := !(m == ("tokens" : Str)) && (!(m == ("size" : Str)) && (!(m == ("at" : Str)) && !(m == ("depth" : Str))))
theorem rf_no {m : Str} (h : noF m = true) (tl : Addr) (sz a d : Int) : (rf tl sz a d).lookup m = none := by
  unfold noF at h
  simp only [Bool.and_eq_true, Bool.not_eq_true'] at h; obtain ⟨h1, h2, h3, h4⟩ := h
  simp [rf, List.lookup, h1, h2, h3, h4]
theorem put_at (tl : Addr) (sz a d b : Int) : putF "at" (.int b) (rf tl sz a d) = rf tl sz b d := by
  have e1 : ¬ (("tokens" : Str) = ("at" : Str)) := by decide +kernel
  have e2 : ¬ (("size" : Str) = ("at" : Str)) := by decide +kernel
  show (if ("tokens" : Str) = "at" then _ else _) = _
  rw [if_neg e1]
  show _ :: (if ("size" : Str) = "at" then _ else _) = _
  rw [if_neg e2]
  show _ :: _ :: (if ("at" : Str) = "at" then _ else _) = _
  rw [if_pos rfl]
theorem put_depth (tl : Addr) (sz a d b : Int) : putF "depth" (.int b) (rf tl sz a d) = rf tl sz a b := by
  have e1 : ¬ (("tokens" : Str) = ("depth" : Str)) := by decide +kernel
  have e2 : ¬ (("size" : Str) = ("depth" : Str)) := by decide +kernel
  have e3 : ¬ (("at" : Str) = ("depth" : Str)) := by decide +kernel
  show (if ("tokens" : Str) = "depth" then _ else _) = _
  rw [if_neg e1]
  show _ :: (if ("size" : Str) = "depth" then _ else _) = _
  rw [if_neg e2]
  show _ :: _ :: (if ("at" : Str) = "depth" then _ else _) = _
  rw [if_neg e3]
  show _ :: _ :: _ :: (if ("depth" : Str) = "depth" then _ else _) = _
  rw [if_pos rfl]
/-- all but the object at p is as it was -/
def Kp (p : Addr) (H H' : Hp) : Prop := ∀ b o, b ≠ p → H b = some o → H' b = some o
theorem Kp.refl (p : Addr) (H : Hp) : Kp p H H := fun _ _ _ h => h
theorem Kp.trans {p : Addr} {H H1 H2 : Hp} (a : Kp p H H1) (b : Kp p H1 H2) : Kp p H H2 := fun c o n h => b c o n (a c o n h)
theorem Kp.same {p : Addr} {H H1 : Hp} (a : Same H H1) : Kp p H H1 := fun c o _ h => a c o h
theorem Kp.put {p : Addr} {H : Hp} {o : HO} : Kp p H (upd H p o) := fun c u n h => by rw [upd_ne n]; exact h
theorem same_new {H : Hp} {p : Addr} (h : H p = none) (o : HO) : Same H (upd H p o) := fun b u q => by rw [upd_ne (ne_of_none q h)]; exact q
theorem Kp.new {p q : Addr} {H : Hp} (h : H q = none) (o : HO) : Kp p H (upd H q o) := .same (same_new h o)
/-- a reader at its place: r is left, d parts may yet be opened -/
structure RdAt (C : Addr) (H : Hp) (R : RS) (r : List Tk) (d : Nat) : Prop where
  d60 : d ≤ 60
  suf : r <:+ R.ts
  tok : ToksAt H R.tl R.ts
  ins : H R.p = some (.ins C R.dx (rf R.tl (R.sz : Int) (((R.ts.length - r.length : Nat) : Int)) (((60 - d : Nat) : Int))))
theorem ToksAt.kp {H H' : Hp} {tl p : Addr} {ts : List Tk} (h : ToksAt H tl ts) {C dx : Addr} {fs : List (Str × V)} (hp : H p = some (.ins C dx fs)) (k : Kp p H H') : ToksAt H' tl ts := by
  obtain ⟨as, h1, h2, h3⟩ := h.lst
  exact ⟨h.small, h.wf, as, k _ _ (ne_of h1 hp (by intro z; cases z)) h1, h2, fun i a t e1 e2 => k _ _ (ne_of (h3 i a t e1 e2) hp (by intro z; cases z)) (h3 i a t e1 e2)⟩
/-- the reader is as it was, other things came -/
theorem RdAt.same {C : Addr} {H H' : Hp} {R : RS} {r : List Tk} {d : Nat} (h : RdAt C H R r d) (k : Same H H') : RdAt C H' R r d :=
  ⟨h.d60, h.suf, h.tok.kp h.ins (.same k), k _ _ h.ins⟩
/-- an error with its field leaves -/
def eC {P : Program} {K : PySem.W.Frag} {mg : Str → Option Value} (T : ETx P K mg) : Er → Addr
  | .mal _ => T.CM
  | _ => T.CU
def eF : Er → List (Str × V)
  | .mal k => [(("at" : Str), .int (k : Int))]
  | .dep => [(("name" : Str), .str "depth")]
  | .txt => [(("name" : Str), .str "text")]
def ErrP {P : Program} {K : PySem.W.Frag} {mg : Str → Option Value} (T : ETx P K mg) (p : Addr) (H : Hp) (e : Er) (E : XK) : Prop := ∀ (d : Addr) (H' : Hp), Kp p H H' → H' d = some (.xd (eF e)) → E (.ref (eC T e)) (some d) H'
def ErrS {P : Program} {K : PySem.W.Frag} {mg : Str → Option Value} (T : ETx P K mg) (H : Hp) (e : Er) (E : XK) : Prop := ∀ (d : Addr) (H' : Hp), Same H H' → H' d = some (.xd (eF e)) → E (.ref (eC T e)) (some d) H'
section
variable {P : Program} {K : PySem.W.Frag} {mg : Str → Option Value} {T : ETx P K mg} {p : Addr} {H H1 : Hp} {e : Er} {E : XK}
theorem ErrP.kp (h : ErrP T p H e E) (k : Kp p H H1) : ErrP T p H1 e E := fun d H' k' hd => h d H' (k.trans k') hd
theorem ErrP.s (h : ErrP T p H e E) : ErrS T H e E := fun d H' k' hd => h d H' (.same k') hd
theorem ErrS.kp (h : ErrS T H e E) (k : Same H H1) : ErrS T H1 e E := fun d H' k' hd => h d H' (k.trans k') hd
end
/-- where nothing fits -/
def failE (sz : Nat) : List Tk → Er
  | [] => .mal sz
  | t :: _ => .mal t.p
theorem fail_eq {β : Type} (sz : Nat) (r : List Tk) : (fail sz r : Out β) = .bad (failE sz r) := by cases r <;> rfl

/-! ### the promises -/
section
variable {P : Program} {K : PySem.W.Frag} {mg : Str → Option Value} (T : ETx P K mg) (C : Addr)
structure spSees (vs : List V) (H : Hp) (Q : VK) (E : XK) : Prop where
  ex : ∃ (R : RS) (r : List Tk) (d : Nat) (v : Cs), vs = [.ref R.p, .str (S v)] ∧ RdAt C H R r d ∧ ∀ H', Kp R.p H H' → RdAt C H' R r d → Q (.bl (sees v r)) H'
structure spFail (vs : List V) (H : Hp) (Q : VK) (E : XK) : Prop where
  ex : ∃ (R : RS) (r : List Tk) (d : Nat), vs = [.ref R.p] ∧ RdAt C H R r d ∧ ErrP T R.p H (failE R.sz r) E
structure spSkip (vs : List V) (H : Hp) (Q : VK) (E : XK) : Prop where
  ex : ∃ (R : RS) (r : List Tk) (d : Nat) (v : Cs), vs = [.ref R.p, .str (S v)] ∧ RdAt C H R r d ∧
    (sees v r = true → ∀ H', Kp R.p H H' → RdAt C H' R r.tail d → Q .non H') ∧ (sees v r = false → ErrP T R.p H (failE R.sz r) E)
structure spSkips (vs : List V) (H : Hp) (Q : VK) (E : XK) : Prop where
  ex : ∃ (R : RS) (r : List Tk) (d : Nat) (v : Cs), vs = [.ref R.p, .str (S v)] ∧ RdAt C H R r d ∧
    (sees v r = true → ∀ H', Kp R.p H H' → RdAt C H' R r.tail d → Q (.bl true) H') ∧ (sees v r = false → ∀ H', Kp R.p H H' → RdAt C H' R r d → Q (.bl false) H')
structure spTake (vs : List V) (H : Hp) (Q : VK) (E : XK) : Prop where
  ex : ∃ (R : RS) (r : List Tk) (d : Nat) (k : TK), vs = [.ref R.p, .str (kS k)] ∧ RdAt C H R r d ∧
    (isK k r = true → ∀ H' t, r.head? = some t → Kp R.p H H' → RdAt C H' R r.tail d → Q (vV t) H') ∧ (isK k r = false → ErrP T R.p H (failE R.sz r) E)
structure spEnter (vs : List V) (H : Hp) (Q : VK) (E : XK) : Prop where
  ex : ∃ (R : RS) (r : List Tk) (d : Nat), vs = [.ref R.p] ∧ RdAt C H R r d ∧
    (d = 0 → ErrP T R.p H .dep E) ∧ (∀ d', d = d' + 1 → ∀ H', Kp R.p H H' → RdAt C H' R r d' → Q .non H')
structure spLeave (vs : List V) (H : Hp) (Q : VK) (E : XK) : Prop where
  ex : ∃ (R : RS) (r : List Tk) (d : Nat) (v : V), vs = [.ref R.p, v] ∧ RdAt C H R r d ∧ d + 1 ≤ 60 ∧ ∀ H', Kp R.p H H' → RdAt C H' R r (d + 1) → Q v H'
structure spBeg (vs : List V) (H : Hp) (Q : VK) (E : XK) : Prop where
  ex : ∃ (R : RS) (r : List Tk) (d : Nat), vs = [.ref R.p] ∧ RdAt C H R r d ∧ ∀ H', Kp R.p H H' → RdAt C H' R r d → Q (.bl (begA r)) H'
end
end Af

/-! W1: the small methods of a reader. -/
namespace Af
open PySem PySem.Spec PyProof.Rows L2 Afd
section
variable {P : Program} {w : World} {K : PySem.W.Frag} {mg : Str → Option Value} {base : Heap} {C : Addr} {σ : L2.St} {H : Hp} {Q : VK} {E : XK} {R : RS} {r : List Tk} {d i : Nat}
/-! ### reading fields -/
theorem g_tokens (T : RTx K mg C) (hR : RdAt C H R r d) {G : V → Prop} (h : G (.ref R.tl)) :
    ∃ a C dx fs v, V.ref R.p = .ref a ∧ H a = some (.ins C dx fs) ∧ Cls K C ∧ NoAttr K C "tokens" ∧ fs.lookup ("tokens" : Str) = some v ∧ G v := ⟨R.p, C, R.dx, _, _, rfl, hR.ins, T.cl, T.nT, rf_tokens _ _ _ _, h⟩
theorem g_size (T : RTx K mg C) (hR : RdAt C H R r d) {G : V → Prop} (h : G (.int (R.sz : Int))) :
    ∃ a C dx fs v, V.ref R.p = .ref a ∧ H a = some (.ins C dx fs) ∧ Cls K C ∧ NoAttr K C "size" ∧ fs.lookup ("size" : Str) = some v ∧ G v := ⟨R.p, C, R.dx, _, _, rfl, hR.ins, T.cl, T.nS, rf_size _ _ _ _, h⟩
theorem g_at (T : RTx K mg C) (hR : RdAt C H R r d) {G : V → Prop} (h : G (.int ((R.ts.length - r.length : Nat) : Int))) :
    ∃ a C dx fs v, V.ref R.p = .ref a ∧ H a = some (.ins C dx fs) ∧ Cls K C ∧ NoAttr K C "at" ∧ fs.lookup ("at" : Str) = some v ∧ G v := ⟨R.p, C, R.dx, _, _, rfl, hR.ins, T.cl, T.nA, rf_at _ _ _ _, h⟩
theorem g_depth (T : RTx K mg C) (hR : RdAt C H R r d) {G : V → Prop} (h : G (.int ((60 - d : Nat) : Int))) :
    ∃ a C dx fs v, V.ref R.p = .ref a ∧ H a = some (.ins C dx fs) ∧ Cls K C ∧ NoAttr K C "depth" ∧ fs.lookup ("depth" : Str) = some v ∧ G v := ⟨R.p, C, R.dx, _, _, rfl, hR.ins, T.cl, T.nD, rf_depth _ _ _ _, h⟩
/-- len(self.tokens), the list read -/
theorem g_len (hR : RdAt C H R r d) {G : List V → Prop} (h : ∀ ys : List V, ys.length = R.ts.length → G ys) : ∃ p ys, [V.ref R.tl] = [V.ref p] ∧ (SqL K H p ys ∨ SqT K H p ys) ∧ G ys := by
  obtain ⟨as, h1, h2, _⟩ := hR.tok.lst
  exact ⟨R.tl, as.map V.ref, rfl, .inl (SqL.of h1), h _ (by rw [List.length_map, h2])⟩
/-- o.m(..), o the reader -/
theorem g_meth (hR : RdAt C H R r d) {m : Str} (hm : noF m = true) {G : Addr → Prop} (h : G R.p) : ∃ a dx fs, V.ref R.p = .ref a ∧ H a = some (.ins C dx fs) ∧ fs.lookup m = none ∧ G a := ⟨R.p, R.dx, _, rfl, hR.ins, rf_no hm _ _ _ _, h⟩
theorem suf_le {α : Type} {a b : List α} (h : a <:+ b) : a.length ≤ b.length := h.length_le
theorem suf_head {α : Type} {t : α} {r ts : List α} (h : (t :: r) <:+ ts) : ts[ts.length - (t :: r).length]? = some t := by
  obtain ⟨pre, rfl⟩ := h
  have e : (pre ++ t :: r).length - (t :: r).length = pre.length := by rw [List.length_append]; omega
  rw [e, List.getElem?_append_right (Nat.le_refl _), Nat.sub_self]
  rfl
theorem suf_tail {α : Type} {t : α} {r ts : List α} (h : (t :: r) <:+ ts) : r <:+ ts := by
  obtain ⟨pre, rfl⟩ := h
  exact ⟨pre ++ [t], by simp⟩
/-- self.tokens[self.at], where one is left -/
theorem ix_head (hR : RdAt C H R r d) {t : Tk} {r' : List Tk} (hr : r = t :: r') : ∃ (as : List Addr) (a : Addr), SqL K H R.tl (as.map V.ref) ∧ atI (as.map V.ref) ((R.ts.length - r.length : Nat) : Int) = some (.ref a) ∧ H a = some (.tup (tokV t)) := by
  subst hr
  obtain ⟨as, h1, h2, h3⟩ := hR.tok.lst
  have e := suf_head hR.suf
  have hl : R.ts.length - (t :: r').length < as.length := by
    rw [h2]
    obtain ⟨z, _⟩ := List.getElem?_eq_some_iff.mp e
    exact z
  refine ⟨as, as[R.ts.length - (t :: r').length], SqL.of h1, atI_nat ?_, h3 _ _ t (List.getElem?_eq_getElem hl) e⟩
  rw [List.getElem?_map, List.getElem?_eq_getElem hl]
  rfl
/-- the test self.at >= len(self.tokens) -/
theorem at_end (hR : RdAt C H R r d) : decide (((R.ts.length - r.length : Nat) : Int) ≥ (R.ts.length : Int)) = decide (r = []) := by
  have h := suf_le hR.suf
  by_cases e : r = []
  · subst e
    rw [decide_eq_true rfl]
    exact decide_eq_true (by rw [List.length_nil]; omega)
  · rw [decide_eq_false e]
    have : 0 < r.length := List.length_pos_iff.mpr e
    exact (decide_eq_false (by omega))
theorem at_more (hR : RdAt C H R r d) : decide (((R.ts.length - r.length : Nat) : Int) < (R.ts.length : Int)) = !decide (r = []) := by
  have h := suf_le hR.suf
  by_cases e : r = []
  · subst e
    rw [decide_eq_true rfl]
    exact decide_eq_false (by rw [List.length_nil]; omega)
  · rw [decide_eq_false e]
    have : 0 < r.length := List.length_pos_iff.mpr e
    exact (decide_eq_true (by omega))
theorem len_ts (hR : RdAt C H R r d) : (R.ts.length : Int) ≤ 10000 := by have := hR.tok.small; omega
/-- one token further -/
theorem RdAt.step {t : Tk} (hR : RdAt C H R (t :: r) d) : RdAt C (upd H R.p (.ins C R.dx (rf R.tl R.sz (((R.ts.length - r.length : Nat) : Int)) (((60 - d : Nat) : Int))))) R r d :=
  ⟨hR.d60, suf_tail hR.suf, hR.tok.kp hR.ins .put, upd_same⟩
theorem step_at {t : Tk} (hR : RdAt C H R (t :: r) d) : ((R.ts.length - (t :: r).length : Nat) : Int) + 1 = ((R.ts.length - r.length : Nat) : Int) := by
  have h := suf_le hR.suf
  rw [List.length_cons] at h ⊢
  omega
/-- self.at += 1 -/
theorem g_step (T : RTx K mg C) {t : Tk} (hR : RdAt C H R (t :: r) d) {G : Hp → Prop} (h : ∀ H', Kp R.p H H' → RdAt C H' R r d → G H') :
    ∃ a C dx fs v, V.ref R.p = .ref a ∧ H a = some (.ins C dx fs) ∧ Cls K C ∧ NoAttr K C "at" ∧ fs.lookup ("at" : Str) = some v ∧ tC (.int 1) σ H fun y H2 => L2.rAdd v y H2 fun z H3 => ∃ dx' fs', H3 a = some (.ins C dx' fs') ∧ fs'.length < 1000 ∧ G (upd H3 a (.ins C dx' (putF "at" z fs'))) := by
  refine ⟨R.p, C, R.dx, _, _, rfl, hR.ins, T.cl, T.nA, rf_at _ _ _ _, _, _, rfl, rfl, R.dx, _, hR.ins, (by show 4 < 1000; decide), ?_⟩
  rw [put_at, step_at hR]
  exact h _ .put hR.step
/-! ### sees -/
theorem sees_head (t : Tk) (r : List Tk) (v : Cs) : sees v (t :: r) = ((decide (t.k = .word) || decide (t.k = .sign)) && decide (t.s = v)) := rfl
theorem ws_in (t : Tk) : inV (.str (kS t.k)) [.str "word", .str "sign"] = (decide (t.k = .word) || decide (t.k = .sign)) := by
  cases h : t.k <;> (show inV _ _ = _; decide +kernel)
theorem scSees : FnScope ["self", "value", "token"] ["self", "value"] (defScope (meS 1)) := ⟨rfl, rfl, rfl, by decide +kernel, rfl, by decide +kernel, by decide +kernel⟩
theorem ok_sees (T : RTx K mg C) (F : MTx K C 1 "sees" "Reader.sees" ["self", "value"]) : MOk P w K mg base C CX0 1 "sees" ["self", "value"] (spSees C) := by
  obtain ⟨f, fd, m, b, F⟩ := F
  refine ⟨f, fd, m, b, F.ok scSees (fun vs H Q E h => ?_) (fun cdv A outer s H vs Q E hr h => ?_)⟩
  · obtain ⟨R, r, d, v, rfl, _⟩ := h
    rfl
  obtain ⟨R, r, d, v, rfl, hR, q⟩ := h
  refine ⟨_, pss_cons (ps_if (pt_cmpR op_ge (pe_fld (pv 0) rfl) (pe_callB call_len_seq (by rfl) T.len PySem.boot_len (pa_cons (pe_fld (pv 0) rfl) pa_nil)) (nomark _)) (pss_one (ps_ret pe_bl)) pss_nil)
    (pss_cons (ps_set (i := 2) scSees.nd rfl (Or.inl rfl) (pe_ix ix_list (pe_fld (pv 0) rfl) (pe_fld (pv 0) rfl) (fun _ _ => rfl)))
    (pss_one (ps_ret (pe_and (pe_cmpR op_in_seq (pe_ix ix_tup (pv 2) pe_int (fun _ _ => rfl)) (pe_tup (pa_cons pe_str (pa_cons pe_str pa_nil))) (by rfl)) (pe_one (pe_cmpR op_eq (pe_ix ix_tup (pv 2) pe_int (fun _ _ => rfl)) (pv 1) (nomark _))))))), ?_⟩
  refine ⟨_, rfl, g_at T hR ?_⟩
  refine ⟨_, rfl, g_tokens T hR ?_⟩
  refine g_len hR fun ys hy => ?_
  refine ⟨_, _, rfl, rfl, _, rfl, ?_⟩
  rw [hy]
  show if decide (((R.ts.length - r.length : Nat) : Int) ≥ (R.ts.length : Int)) = true then _ else _
  rw [at_end hR]
  cases r with
  | nil => exact iteT (q _ (.refl _ _) hR)
  | cons t r =>
    rw [decide_eq_false (List.cons_ne_nil _ _)]
    refine iteF ?_
    obtain ⟨as, a, h1, h2, h3⟩ := ix_head (K := K) hR rfl
    refine ⟨_, rfl, g_tokens T hR ?_⟩
    refine ⟨_, rfl, g_at T hR ?_⟩
    refine ⟨R.tl, _, _, _, rfl, rfl, h1, h2, ?_⟩
    refine ⟨_, rfl, a, _, 0, _, rfl, rfl, SqT.of h3, rfl, (by show 2 ≤ sizeLine; decide), fun p hp => ?_⟩
    have k : Same H (upd H p (.tup [.str "word", .str "sign"])) := same_new hp _
    refine ⟨p, _, rfl, .inr (SqT.of upd_same), rfl, rfl, _, rfl, ?_⟩
    show if inV (.str (kS t.k)) [.str "word", .str "sign"] = true then _ else _
    rw [ws_in]
    rw [sees_head] at q
    have q' := q _ (.same k) (hR.same k)
    refine ite2 (fun c => ?_) (fun c => ?_)
    · have e : vV t = .str (S t.s) := by
        unfold vV
        cases h : t.k <;> first | rfl | (rw [h] at c; exact absurd c (by decide))
      refine ⟨_, rfl, a, _, 1, _, rfl, rfl, SqT.of (k _ _ h3), rfl, _, rfl, ?_⟩
      rw [e]
      refine ⟨rfl, ?_⟩
      rw [S_inj]
      rw [c, Bool.true_and] at q'
      exact q'
    · rw [Bool.eq_false_iff.mpr c, Bool.false_and] at q'
      exact q'
/-! ### fail, skip, skips, take -/
theorem scFail : FnScope ["self"] ["self"] (defScope (meS 2)) := ⟨rfl, rfl, rfl, by decide +kernel, rfl, by decide +kernel, by decide +kernel⟩
theorem ok_fail (T : RTx K mg C) (TE : ETx P K mg) (F : MTx K C 2 "fail" "Reader.fail" ["self"]) : MOk P w K mg base C (L2.CX P w) 2 "fail" ["self"] (spFail TE C) := by
  obtain ⟨f, fd, m, b, F⟩ := F
  refine ⟨f, fd, m, b, F.okX scFail (fun vs H Q E h => ?_) (fun cdv A outer s H vs Q E hr h => ?_)⟩
  · obtain ⟨R, r, d, rfl, _⟩ := h
    rfl
  obtain ⟨R, r, d, rfl, hR, q⟩ := h
  refine ⟨_, pss_cons (ps_if (pt_cmpR op_lt (pe_fld (pv 0) rfl) (pe_callB call_len_seq (by rfl) T.len PySem.boot_len (pa_cons (pe_fld (pv 0) rfl) pa_nil)) (nomark _))
      (pss_one (ps_raiseErr rfl TE.mal (.inl rfl) hr (takes_of rfl rfl rfl rfl) (pa_cons (pe_ix ix_tup (pe_ix ix_list (pe_fld (pv 0) rfl) (pe_fld (pv 0) rfl) (fun _ _ => rfl)) pe_int (fun _ _ => rfl)) pa_nil) (by rfl) (by decide))) pss_nil)
    (pss_one (ps_raiseErr rfl TE.mal (.inl rfl) hr (takes_of rfl rfl rfl rfl) (pa_cons (pe_fld (pv 0) rfl) pa_nil) (by rfl) (by decide))), ?_⟩
  refine ⟨_, rfl, g_at T hR ?_⟩
  refine ⟨_, rfl, g_tokens T hR ?_⟩
  refine g_len hR fun ys hy => ?_
  refine ⟨_, _, rfl, rfl, _, rfl, ?_⟩
  rw [hy]
  show if decide (((R.ts.length - r.length : Nat) : Int) < (R.ts.length : Int)) = true then _ else _
  rw [at_more hR]
  cases r with
  | nil =>
    refine iteF ?_
    refine ⟨_, rfl, g_size T hR ?_⟩
    refine ⟨_, rfl, fun d hd => ?_⟩
    exact q d _ (.new hd _) upd_same
  | cons t r =>
    rw [decide_eq_false (List.cons_ne_nil _ _)]
    refine iteT ?_
    obtain ⟨as, a, h1, h2, h3⟩ := ix_head (K := K) hR rfl
    refine ⟨_, rfl, g_tokens T hR ?_⟩
    refine ⟨_, rfl, g_at T hR ?_⟩
    refine ⟨R.tl, _, _, _, rfl, rfl, h1, h2, ?_⟩
    refine ⟨a, _, 2, _, rfl, rfl, SqT.of h3, rfl, ?_⟩
    refine ⟨_, rfl, fun d hd => ?_⟩
    exact q d _ (.new hd _) upd_same
end
end Af

/-! W2: skip, skips, take, enter, leave. -/
namespace Af
open PySem PySem.Spec PyProof.Rows L2 Afd
section
variable {P : Program} {w : World} {K : PySem.W.Frag} {mg : Str → Option Value} {base : Heap} {C : Addr} {σ : L2.St} {H : Hp} {Q : VK} {E : XK} {R : RS} {r : List Tk} {d i : Nat}
theorem no_sees : noF "sees" = true := by decide +kernel
theorem no_fail : noF "fail" = true := by decide +kernel
theorem if_not_t {b : Bool} {A B : Prop} (h : b = true) (hb : B) : if (!b) = true then A else B := by subst h; exact iteF hb
theorem if_not_f {b : Bool} {A B : Prop} (h : b = false) (ha : A) : if (!b) = true then A else B := by subst h; exact iteT ha
theorem if_t {b : Bool} {A B : Prop} (h : b = true) (ha : A) : if b = true then A else B := by subst h; exact iteT ha
theorem if_f {b : Bool} {A B : Prop} (h : b = false) (hb : B) : if b = true then A else B := by subst h; exact iteF hb
theorem bool_cases (b : Bool) : b = true ∨ b = false := by cases b <;> simp
theorem sees_cons {v : Cs} {r : List Tk} (h : sees v r = true) : ∃ t r', r = t :: r' := by
  cases r with
  | nil => cases h
  | cons t r => exact ⟨t, r, rfl⟩
theorem isK_cons {k : TK} {r : List Tk} (h : isK k r = true) : ∃ t r', r = t :: r' := by
  cases r with
  | nil => cases h
  | cons t r => exact ⟨t, r, rfl⟩
theorem scSkip : FnScope ["self", "value"] ["self", "value"] (defScope (meS 3)) := ⟨rfl, rfl, rfl, by decide +kernel, rfl, by decide +kernel, by decide +kernel⟩
theorem ok_skip (T : RTx K mg C) (TE : ETx P K mg) (GS : MOk P w K mg base C CX0 1 "sees" ["self", "value"] (spSees C)) (GF : MOk P w K mg base C (L2.CX P w) 2 "fail" ["self"] (spFail TE C)) (F : MTx K C 3 "skip" "Reader.skip" ["self", "value"]) :
    MOk P w K mg base C (L2.CX P w) 3 "skip" ["self", "value"] (spSkip TE C) := by
  obtain ⟨f, fd, m, b, F⟩ := F
  obtain ⟨f1, fd1, m1, b1, G1⟩ := GS
  obtain ⟨f2, fd2, m2, b2, G2⟩ := GF
  refine ⟨f, fd, m, b, F.okX scSkip (fun vs H Q E h => ?_) (fun cdv A outer s H vs Q E hr h => ?_)⟩
  · obtain ⟨R, r, d, v, rfl, _⟩ := h
    rfl
  obtain ⟨R, r, d, v, rfl, hR, qt, qf⟩ := h
  refine ⟨_, pss_cons (ps_if (pt_not (pt_val (pe_meth (pv 0) T.cl m1 G1 (hr.mono (by decide)) b1 .nil pass0 (pa_cons (pv 1) pa_nil)))) (pss_one (ps_expr (pe_meth0 (pv 0) T.cl m2 G2 hr b2 .nil (passes_call (takes_of rfl rfl rfl rfl) fun _ _ _ _ h => h)))) pss_nil)
    (pss_one (ps_fldaug (pv 0) pe_int in_add)), ?_⟩
  refine ⟨_, rfl, g_meth hR no_sees ?_⟩
  refine ⟨_, rfl, R, r, d, v, rfl, hR, fun H1 k1 R1 => ⟨_, rfl, ?_⟩⟩
  rcases bool_cases (sees v r) with c | c
  · refine if_not_t c ?_
    obtain ⟨t, r', rfl⟩ := sees_cons c
    exact ⟨_, rfl, g_step T R1 fun H2 k2 R2 => qt c _ (k1.trans k2) R2⟩
  · refine if_not_f c ?_
    refine ⟨_, rfl, g_meth R1 no_fail ?_⟩
    exact ⟨R, r, d, rfl, R1, (qf c).kp k1⟩
theorem scSkips : FnScope ["self", "value"] ["self", "value"] (defScope (meS 4)) := ⟨rfl, rfl, rfl, by decide +kernel, rfl, by decide +kernel, by decide +kernel⟩
theorem ok_skips (T : RTx K mg C) (GS : MOk P w K mg base C CX0 1 "sees" ["self", "value"] (spSees C)) (F : MTx K C 4 "skips" "Reader.skips" ["self", "value"]) :
    MOk P w K mg base C CX0 2 "skips" ["self", "value"] (spSkips C) := by
  obtain ⟨f, fd, m, b, F⟩ := F
  obtain ⟨f1, fd1, m1, b1, G1⟩ := GS
  refine ⟨f, fd, m, b, F.ok scSkips (fun vs H Q E h => ?_) (fun cdv A outer s H vs Q E hr h => ?_)⟩
  · obtain ⟨R, r, d, v, rfl, _⟩ := h
    rfl
  obtain ⟨R, r, d, v, rfl, hR, qt, qf⟩ := h
  refine ⟨_, pss_cons (ps_if (pt_val (pe_meth (pv 0) T.cl m1 G1 hr b1 .nil pass0 (pa_cons (pv 1) pa_nil))) (pss_cons (ps_fldaug (pv 0) pe_int in_add) (pss_one (ps_ret pe_bl))) pss_nil)
    (pss_one (ps_ret pe_bl)), ?_⟩
  refine ⟨_, rfl, g_meth hR no_sees ?_⟩
  refine ⟨_, rfl, R, r, d, v, rfl, hR, fun H1 k1 R1 => ⟨_, rfl, ?_⟩⟩
  rcases bool_cases (sees v r) with c | c
  · refine if_t c ?_
    obtain ⟨t, r', rfl⟩ := sees_cons c
    exact ⟨_, rfl, g_step T R1 fun H2 k2 R2 => qt c _ (k1.trans k2) R2⟩
  · exact if_f c (qf c _ k1 R1)
theorem isK_head (k : TK) (t : Tk) (r : List Tk) : isK k (t :: r) = decide (t.k = k) := rfl
theorem kS_inj (a b : TK) : decide (V.str (kS a) = V.str (kS b)) = decide (a = b) := by
  cases a <;> cases b <;> (show decide (V.str _ = V.str _) = _; decide +kernel)
theorem scTake : FnScope ["self", "kind"] ["self", "kind"] (defScope (meS 5)) := ⟨rfl, rfl, rfl, by decide +kernel, rfl, by decide +kernel, by decide +kernel⟩
theorem ok_take (T : RTx K mg C) (TE : ETx P K mg) (GF : MOk P w K mg base C (L2.CX P w) 2 "fail" ["self"] (spFail TE C)) (F : MTx K C 5 "take" "Reader.take" ["self", "kind"]) :
    MOk P w K mg base C (L2.CX P w) 3 "take" ["self", "kind"] (spTake TE C) := by
  obtain ⟨f, fd, m, b, F⟩ := F
  obtain ⟨f2, fd2, m2, b2, G2⟩ := GF
  refine ⟨f, fd, m, b, F.okX scTake (fun vs H Q E h => ?_) (fun cdv A outer s H vs Q E hr h => ?_)⟩
  · obtain ⟨R, r, d, v, rfl, _⟩ := h
    rfl
  obtain ⟨R, r, d, kk, rfl, hR, qt, qf⟩ := h
  refine ⟨_, pss_cons (ps_if (PW.pt (pw_or (pt_cmpR op_ge (pe_fld (pv 0) rfl) (pe_callB call_len_seq (by rfl) T.len PySem.boot_len (pa_cons (pe_fld (pv 0) rfl) pa_nil)) (nomark _))
      (pw_or1 (pt_cmpR op_ne (pe_ix ix_tup (pe_ix ix_list (pe_fld (pv 0) rfl) (pe_fld (pv 0) rfl) (fun _ _ => rfl)) pe_int (fun _ _ => rfl)) (pv 1) (nomark _)))))
      (pss_one (ps_expr (pe_meth0 (pv 0) T.cl m2 G2 hr b2 .nil (passes_call (takes_of rfl rfl rfl rfl) fun _ _ _ _ h => h)))) pss_nil)
    (pss_cons (ps_fldaug (pv 0) pe_int in_add)
    (pss_one (ps_ret (pe_ix ix_tup (pe_ix ix_list (pe_fld (pv 0) rfl) (pe_op op_sub (pe_fld (pv 0) rfl) pe_int) (fun _ _ => rfl)) pe_int (fun _ _ => rfl))))), ?_⟩
  refine ⟨_, rfl, g_at T hR ?_⟩
  refine ⟨_, rfl, g_tokens T hR ?_⟩
  refine g_len hR fun ys hy => ?_
  refine ⟨_, _, rfl, rfl, _, rfl, ?_⟩
  rw [hy]
  show if decide (((R.ts.length - r.length : Nat) : Int) ≥ (R.ts.length : Int)) = true then _ else _
  rw [at_end hR]
  cases r with
  | nil =>
    refine iteT ?_
    refine iteT ?_
    refine ⟨_, rfl, g_meth hR no_fail ?_⟩
    exact ⟨R, [], d, rfl, hR, qf rfl⟩
  | cons t r =>
    rw [decide_eq_false (List.cons_ne_nil _ _)]
    refine iteF ?_
    obtain ⟨as, a, h1, h2, h3⟩ := ix_head (K := K) hR rfl
    refine ⟨_, rfl, g_tokens T hR ?_⟩
    refine ⟨_, rfl, g_at T hR ?_⟩
    refine ⟨R.tl, _, _, _, rfl, rfl, h1, h2, ?_⟩
    refine ⟨a, _, 0, _, rfl, rfl, SqT.of h3, rfl, _, rfl, rfl, _, rfl, ?_⟩
    show if (!decide (V.str (kS t.k) = V.str (kS kk))) = true then _ else _
    rw [kS_inj]
    rw [isK_head] at qt qf
    rcases bool_cases (decide (t.k = kk)) with c | c
    · refine if_not_t c ?_
      refine ⟨_, rfl, g_step T hR fun H2 k2 R2 => ?_⟩
      have h3' := k2 _ _ (ne_of h3 hR.ins (by intro z; cases z)) h3
      have h1' : SqL K H2 R.tl (as.map V.ref) := by
        obtain ⟨as', e1, e2, _⟩ := hR.tok.lst
        have ne := ne_of e1 hR.ins (by intro z; cases z)
        rcases h1 with (z | ⟨o, z⟩) | z
        · exact .inl (.inl (k2 _ _ ne z))
        · exact .inl (.inr ⟨o, k2 _ _ ne z⟩)
        · exact .inr z
      refine ⟨_, rfl, g_tokens T R2 ?_⟩
      refine ⟨_, rfl, g_at T R2 ?_⟩
      refine ⟨_, _, rfl, rfl, R.tl, _, _, _, rfl, rfl, h1', ?_, a, _, 1, _, rfl, rfl, SqT.of h3', rfl, qt c _ t rfl k2 R2⟩
      have e := step_at hR
      rw [show ((R.ts.length - r.length : Nat) : Int) - 1 = ((R.ts.length - (t :: r).length : Nat) : Int) by omega]
      exact h2
    · refine if_not_f c ?_
      refine ⟨_, rfl, g_meth hR no_fail ?_⟩
      exact ⟨R, t :: r, d, rfl, hR, qf c⟩
theorem scEnter : FnScope ["self"] ["self"] (defScope (meS 6)) := ⟨rfl, rfl, rfl, by decide +kernel, rfl, by decide +kernel, by decide +kernel⟩
/-- the counter of open parts set -/
theorem RdAt.dep {d d' : Nat} (hR : RdAt C H R r d) (h : d' ≤ 60) : RdAt C (upd H R.p (.ins C R.dx (rf R.tl R.sz (((R.ts.length - r.length : Nat) : Int)) (((60 - d' : Nat) : Int))))) R r d' := ⟨h, hR.suf, hR.tok.kp hR.ins .put, upd_same⟩
theorem ok_enter (T : RTx K mg C) (TE : ETx P K mg) {t : PySem.Tok} (gO : mg "MOST_OPEN" = some (.int 60 t)) (F : MTx K C 6 "enter" "Reader.enter" ["self"]) :
    MOk P w K mg base C (L2.CX P w) 2 "enter" ["self"] (spEnter TE C) := by
  obtain ⟨f, fd, m, b, F⟩ := F
  refine ⟨f, fd, m, b, F.okX scEnter (fun vs H Q E h => ?_) (fun cdv A outer s H vs Q E hr h => ?_)⟩
  · obtain ⟨R, r, d, rfl, _⟩ := h
    rfl
  obtain ⟨R, r, d, rfl, hR, q0, q1⟩ := h
  refine ⟨_, pss_cons (ps_if (pt_cmpR op_ge (pe_fld (pv 0) rfl) (pe_glob (v := .int 60) (by rfl) gO ⟨t, rfl⟩) (nomark _))
      (pss_one (ps_raiseErr rfl TE.unb (.inr rfl) hr (takes_of rfl rfl rfl rfl) (pa_cons pe_str pa_nil) (by rfl) (by decide))) pss_nil)
    (pss_one (ps_fldaug (pv 0) pe_int in_add)), ?_⟩
  refine ⟨_, rfl, g_depth T hR ?_⟩
  refine ⟨_, _, rfl, rfl, _, rfl, ?_⟩
  have d60 := hR.d60
  cases d with
  | zero =>
    refine iteT ?_
    refine ⟨_, rfl, fun dd hd => ?_⟩
    exact q0 rfl dd _ (.new hd _) upd_same
  | succ d =>
    refine if_f (decide_eq_false (by omega)) ?_
    refine ⟨_, rfl, R.p, C, R.dx, _, _, rfl, hR.ins, T.cl, T.nD, rf_depth _ _ _ _, _, _, rfl, rfl, R.dx, _, hR.ins, (by show 4 < 1000; decide), ?_⟩
    rw [put_depth, show ((60 - (d + 1) : Nat) : Int) + 1 = ((60 - d : Nat) : Int) by omega]
    exact q1 d rfl _ .put (hR.dep (by omega))
theorem scLeave : FnScope ["self", "node"] ["self", "node"] (defScope (meS 7)) := ⟨rfl, rfl, rfl, by decide +kernel, rfl, by decide +kernel, by decide +kernel⟩
theorem ok_leave (T : RTx K mg C) (F : MTx K C 7 "leave" "Reader.leave" ["self", "node"]) : MOk P w K mg base C CX0 1 "leave" ["self", "node"] (spLeave C) := by
  obtain ⟨f, fd, m, b, F⟩ := F
  refine ⟨f, fd, m, b, F.ok scLeave (fun vs H Q E h => ?_) (fun cdv A outer s H vs Q E hr h => ?_)⟩
  · obtain ⟨R, r, d, v, rfl, _⟩ := h
    rfl
  obtain ⟨R, r, d, v, rfl, hR, hd, q⟩ := h
  refine ⟨_, pss_cons (ps_fldaug (pv 0) pe_int in_sub) (pss_one (ps_ret (pv 1))), ?_⟩
  refine ⟨_, rfl, R.p, C, R.dx, _, _, rfl, hR.ins, T.cl, T.nD, rf_depth _ _ _ _, _, _, rfl, rfl, R.dx, _, hR.ins, (by show 4 < 1000; decide), ?_⟩
  rw [put_depth, show ((60 - d : Nat) : Int) - 1 = ((60 - (d + 1) : Nat) : Int) by omega]
  exact ⟨_, rfl, q _ .put (hR.dep hd)⟩
end
end Af

/-! W3: begins_atom, limited, built. -/
namespace Af
open PySem PySem.Spec PyProof.Rows L2 Afd
/-- the written dict CONSTANTS -/
structure CTx (K : PySem.W.Frag) (w : World) (mg : Str → Option Value) where
  aC : Addr
  es : Array DictEntry
  n : Nat
  t1 : Addr
  t2 : Addr
  t3 : Addr
  D : KDict K w aC es n
  g : mg "CONSTANTS" = some (.ref aC)
  look : ∀ z : Str, PySem.W.nsIn K aC z = some (if z = S wTrue then some (.ref t1) else if z = S wFalse then some (.ref t2) else if z = S wUnit then some (.ref t3) else none)
section
variable {P : Program} {w : World} {K : PySem.W.Frag} {mg : Str → Option Value} {base : Heap} {C : Addr} {σ : L2.St} {H : Hp} {Q : VK} {E : XK} {R : RS} {r : List Tk} {d i : Nat}
theorem S_eq {a b : Cs} : (S a = S b) ↔ a = b := ⟨fun z => by injection z with z; simpa using congrArg Array.toList z, fun h => by rw [h]⟩
theorem look_some (c : CTx K w mg) (s : Cs) : PySem.W.nsIn K c.aC (S s) = some (if s = wTrue then some (.ref c.t1) else if s = wFalse then some (.ref c.t2) else if s = wUnit then some (.ref c.t3) else none) := by
  rw [c.look]
  simp only [S_eq]
theorem look_is (c : CTx K w mg) (s : Cs) : (if s = wTrue then some (Value.ref c.t1) else if s = wFalse then some (.ref c.t2) else if s = wUnit then some (.ref c.t3) else none).isSome = (decide (s = wTrue) || decide (s = wFalse) || decide (s = wUnit)) := by
  by_cases h1 : s = wTrue
  · rw [if_pos h1, decide_eq_true h1]; rfl
  · rw [if_neg h1, decide_eq_false h1]
    by_cases h2 : s = wFalse
    · rw [if_pos h2, decide_eq_true h2]; rfl
    · rw [if_neg h2, decide_eq_false h2]
      by_cases h3 : s = wUnit
      · rw [if_pos h3, decide_eq_true h3]; rfl
      · rw [if_neg h3, decide_eq_false h3]; rfl
theorem scBeg : FnScope ["self", "kind", "value", "at"] ["self"] (defScope (meS 17)) := ⟨rfl, rfl, rfl, by decide +kernel, rfl, by decide +kernel, by decide +kernel⟩
theorem z_word : ("word" : Str) = kS .word := rfl
theorem z_sign : ("sign" : Str) = kS .sign := rfl
theorem ok_beg (T : RTx K mg C) (c : CTx K w mg) (F : MTx K C 17 "begins_atom" "Reader.begins_atom" ["self"]) : MOk P w K mg base C CX0 1 "begins_atom" ["self"] (spBeg C) := by
  obtain ⟨f, fd, m, b, F⟩ := F
  refine ⟨f, fd, m, b, F.ok scBeg (fun vs H Q E h => ?_) (fun cdv A outer s H vs Q E hr h => ?_)⟩
  · obtain ⟨R, r, d, rfl, _⟩ := h
    rfl
  obtain ⟨R, r, d, rfl, hR, q⟩ := h
  refine ⟨_, pss_cons (ps_if (pt_cmpR op_ge (pe_fld (pv 0) rfl) (pe_callB call_len_seq (by rfl) T.len PySem.boot_len (pa_cons (pe_fld (pv 0) rfl) pa_nil)) (nomark _)) (pss_one (ps_ret pe_bl)) pss_nil)
    (pss_cons (ps_asg (pe_ix ix_list (pe_fld (pv 0) rfl) (pe_fld (pv 0) rfl) (fun _ _ => rfl)) (pg_tup rfl (pgs_cons (pg_name (i := 1) scBeg.nd rfl (Or.inl rfl)) (pgs_cons (pg_name (i := 2) scBeg.nd rfl (Or.inl rfl)) (pgs_cons (pg_name (i := 3) scBeg.nd rfl (Or.inl rfl)) pgs_nil)))))
    (pss_cons (ps_if (pt_cmpR op_eq (pv 1) pe_str (nomark _)) (pss_one (ps_ret (pe_cmpR (op_in_kd c.D) (pv 2) (pe_glob (v := .ref c.aC) (by rfl) c.g rfl) (by rfl)))) pss_nil)
    (pss_one (ps_ret (pe_or (pe_cmpR op_ne (pv 1) pe_str (nomark _)) (pe_one (pe_cmpR op_eq (pv 2) pe_str (nomark _)))))))), ?_⟩
  refine ⟨_, rfl, g_at T hR ?_⟩
  refine ⟨_, rfl, g_tokens T hR ?_⟩
  refine g_len hR fun ys hy => ?_
  refine ⟨_, _, rfl, rfl, _, rfl, ?_⟩
  rw [hy]
  show if decide (((R.ts.length - r.length : Nat) : Int) ≥ (R.ts.length : Int)) = true then _ else _
  rw [at_end hR]
  cases r with
  | nil => exact iteT (q _ (.refl _ _) hR)
  | cons t r =>
    rw [decide_eq_false (List.cons_ne_nil _ _)]
    refine iteF ?_
    obtain ⟨as, a, h1, h2, h3⟩ := ix_head (K := K) hR rfl
    refine ⟨_, rfl, g_tokens T hR ?_⟩
    refine ⟨_, rfl, g_at T hR ?_⟩
    refine ⟨R.tl, _, _, _, rfl, rfl, h1, h2, ?_⟩
    refine ⟨a, _, rfl, SqT.of h3, rfl, _, _, rfl, _, _, rfl, _, _, rfl, rfl, ?_⟩
    have q' := q _ (.refl _ _) hR
    refine ⟨_, rfl, rfl, _, rfl, ?_⟩
    show if decide (V.str (kS t.k) = V.str (kS .word)) = true then _ else _
    rw [kS_inj]
    cases hk : t.k with
    | word =>
      refine iteT ?_
      have e : vV t = .str (S t.s) := by unfold vV; rw [hk]
      refine ⟨_, rfl, S t.s, _, e, rfl, look_some c t.s, ?_⟩
      rw [look_is]
      have z : begA (t :: r) = (decide (t.s = wTrue) || decide (t.s = wFalse) || decide (t.s = wUnit)) := by simp only [begA, hk]
      rw [z] at q'
      exact q'
    | name =>
      refine iteF ?_
      have z : begA (t :: r) = true := by simp only [begA, hk]
      rw [z] at q'
      refine ⟨_, rfl, rfl, _, rfl, ?_⟩
      exact iteT q'
    | num =>
      refine iteF ?_
      have z : begA (t :: r) = true := by simp only [begA, hk]
      rw [z] at q'
      refine ⟨_, rfl, rfl, _, rfl, ?_⟩
      exact iteT q'
    | sign =>
      refine iteF ?_
      have e : vV t = .str (S t.s) := by unfold vV; rw [hk]
      have z : begA (t :: r) = decide (t.s = sLp) := by simp only [begA, hk]
      rw [z] at q'
      refine ⟨_, rfl, rfl, _, rfl, ?_⟩
      refine iteF ?_
      refine ⟨_, rfl, ?_⟩
      rw [e]
      refine ⟨rfl, ?_⟩
      rw [z_sLp, S_inj]
      exact q'
/-! ### limited, built -/
structure spLimited (TE : ETx P K mg) (vs : List V) (H : Hp) (Q : VK) (E : XK) : Prop where
  ex : ∃ (v : V) (n : Nat), vs = [v, .int (n : Int)] ∧ (60 < n → ErrS TE H .dep E) ∧ (n ≤ 60 → ∀ H' q, Same H H' → H' q = some (.tup [v, .int (n : Int)]) → Q (.ref q) H')
theorem scLim : FnScope ["node", "depth"] ["node", "depth"] (defScope (topS 26)) := ⟨rfl, rfl, rfl, by decide +kernel, rfl, by decide +kernel, by decide +kernel⟩
theorem ok_limited (TE : ETx P K mg) {t : PySem.Tok} (gO : mg "MOST_DEPTH" = some (.int 60 t)) (F : GTx K mg 26 "limited" ["node", "depth"]) : GOk P w K mg base (L2.CX P w) 2 "limited" ["node", "depth"] [] (spLimited TE) := by
  obtain ⟨f, fd, m, b, F⟩ := F
  refine ⟨f, fd, m, F.kp, b, F.okX scLim (fun vs H Q E h => ?_) (fun cdv A outer s H vs Q E hr h => ?_)⟩
  · obtain ⟨v, n, rfl, _⟩ := h
    rfl
  obtain ⟨v, n, rfl, q0, q1⟩ := h
  refine ⟨_, pss_cons (ps_if (pt_cmpR op_gt (pv 1) (pe_glob (v := .int 60) (by rfl) gO ⟨t, rfl⟩) (nomark _))
      (pss_one (ps_raiseErr rfl TE.unb (.inr rfl) hr (takes_of rfl rfl rfl rfl) (pa_cons pe_str pa_nil) (by rfl) (by decide))) pss_nil)
    (pss_one (ps_ret (pe_tup (pa_cons (pv 0) (pa_cons (pv 1) pa_nil))))), ?_⟩
  refine ⟨_, rfl, _, _, rfl, rfl, _, rfl, ?_⟩
  by_cases h : 60 < n
  · refine if_t (decide_eq_true (by omega)) ?_
    exact ⟨_, rfl, fun dd hd => q0 h dd _ (same_new hd _) upd_same⟩
  · refine if_f (decide_eq_false (by omega)) ?_
    exact ⟨_, rfl, _, rfl, (by show 2 ≤ sizeLine; decide), fun p hp => q1 (by omega) _ p (same_new hp _) upd_same⟩
def maxL : List Nat → Nat
  | [] => 0
  | [a] => a
  | a :: r => max a (maxL r)
theorem maxL_le : ∀ {l : List Nat} {a : Nat}, a ∈ l → a ≤ maxL l
  | [], a, h => by cases h
  | [b], a, h => by
    rcases (List.mem_cons.mp h) with rfl | h
    · exact Nat.le_refl _
    · cases h
  | b :: c :: r, a, h => by
    show a ≤ max b (maxL (c :: r))
    rcases (List.mem_cons.mp h) with rfl | h
    · exact Nat.le_max_left _ _
    · exact Nat.le_trans (maxL_le h) (Nat.le_max_right _ _)
theorem maxL_mem : ∀ {l : List Nat}, l ≠ [] → maxL l ∈ l
  | [], h => absurd rfl h
  | [b], _ => List.mem_cons_self
  | b :: c :: r, _ => by
    show max b (maxL (c :: r)) ∈ _
    rcases Nat.le_total b (maxL (c :: r)) with h | h
    · rw [Nat.max_eq_right h]
      exact List.mem_cons_of_mem _ (maxL_mem (by simp))
    · rw [Nat.max_eq_left h]
      exact List.mem_cons_self
theorem max_is {ns : List Nat} (hn : ns ≠ []) {m : Int} (h1 : m ∈ ns.map (fun n : Nat => (n : Int))) (h2 : ∀ y ∈ ns.map (fun n : Nat => (n : Int)), y ≤ m) : m = (maxL ns : Int) := by
  obtain ⟨k, hk, rfl⟩ := List.mem_map.mp h1
  have a := maxL_le hk
  have b := h2 (maxL ns : Int) (List.mem_map.mpr ⟨_, maxL_mem hn, rfl⟩)
  omega
/-- built(head, inner, names): inner a list of nodes, each with its depth; names a tuple -/
structure spBuilt (TE : ETx P K mg) (vs : List V) (H : Hp) (Q : VK) (E : XK) : Prop where
  ex : ∃ (hd : Str) (il nl : Addr) (as : List Addr) (vs0 : List V) (ns : List Nat) (xs : List V), vs = [.str hd, .ref il, .ref nl] ∧ H il = some (.lst (as.map V.ref)) ∧ SqT K H nl xs ∧ xs.length ≤ 3 ∧
    as ≠ [] ∧ as.length ≤ 3 ∧ as.length = ns.length ∧ as.length = vs0.length ∧ (∀ (i : Nat) a v n, as[i]? = some a → vs0[i]? = some v → ns[i]? = some n → H a = some (.tup [v, .int ((n : Nat) : Int)])) ∧
    (60 < 1 + maxL ns → ErrS TE H .dep E) ∧ (1 + maxL ns ≤ 60 → ∀ H' q v, Same H H' → H' q = some (.tup [v, .int ((1 + maxL ns : Nat) : Int)]) → Q (.ref q) H')
end
end Af

/-! W4: built. -/
namespace Af
open PySem PySem.Spec PyProof.Rows L2 Afd
/-- an empty tuple of the written part -/
def NilT (K : PySem.W.Frag) (a : Addr) : Prop := ∃ (o : Obj) (its : Array Value) (n : Nat), K.lookup a = some o ∧ o.cls = .type "tuple" ∧ o.data = .seq its n ∧ its.toList = []
theorem NilT.sq {K : PySem.W.Frag} {a : Addr} (h : NilT K a) (H : Hp) : SqT K H a [] := by
  obtain ⟨o, its, n, h1, h2, h3, h4⟩ := h
  refine .inr ⟨o, its, n, h1, h2, h3, ?_, by rw [h4]; exact .nil⟩
  rw [← Array.length_toList, h4]
  exact Nat.zero_le _
/-- built, as the head tells it: one default, an empty tuple -/
def BTx (K : PySem.W.Frag) (mg : Str → Option Value) : Prop := ∃ (f : Addr) (fd : FuncData) (aE : Addr), mg "built" = some (.ref f) ∧ NilT K aE ∧ FunD K "built" "built" (defArgs (topS 27)) (defBody (topS 27)) (defScope (topS 27)) [.ref aE] [] f fd
def BOk (P : Program) (w : World) (K : PySem.W.Frag) (mg : Str → Option Value) (base : Heap) (k : Nat) (TE : ETx P K mg) : Prop :=
  ∃ (f : Addr) (fd : FuncData) (aE : Addr), mg "built" = some (.ref f) ∧ PySem.W.keepIn K (.ref f) = true ∧ NilT K aE ∧ Binds K fd ["head", "inner", "names"] [] ∧ Binds K fd ["head", "inner", "names"] [.ref aE] ∧
    FnOk P w K mg base (L2.CX P w) k f fd ["head", "inner", "names"] (spBuilt TE)
section
variable {P : Program} {w : World} {K : PySem.W.Frag} {mg : Str → Option Value} {base : Heap} {C : Addr} {σ : L2.St} {H : Hp} {Q : VK} {E : XK} {R : RS} {r : List Tk} {d i : Nat}
theorem scBuilt : FnScope ["head", "inner", "names", "depth", "part"] ["head", "inner", "names"] (defScope (topS 27)) := ⟨rfl, rfl, rfl, by decide +kernel, rfl, by decide +kernel, by decide +kernel⟩
/-- t + u, the left one not empty: a tuple of both -/
def rCat2 (K : PySem.W.Frag) : R2 := fun x y H Q => ∃ a b xs ys, x = .ref a ∧ y = .ref b ∧ SqT K H a xs ∧ SqT K H b ys ∧ xs ≠ [] ∧ xs.length + ys.length ≤ 100 ∧ ∀ q H', Same H H' → SqT K H' q (xs ++ ys) → Q (.ref q) H'
theorem op_cat2 {X : Cx} : OpR X (binaryOp .Add) (rCat2 X.K) := by
  intro pins s σ H x y v u Q I rx ry h; obtain ⟨a, b, xs, ys, e1, e2, h1, h2, h3, h4, q⟩ := h
  refine op_catT pins s σ H x y v u Q I rx ry ⟨a, b, xs, ys, e1, e2, h1, h2, h3, ?_, fun z => ?_, fun z p hp => ?_⟩
  · rw [sizeLine_eq]; omega
  · subst z
    exact q a H (Same.refl H) (by rw [List.append_nil]; exact h1)
  · exact q p _ (same_new hp _) (SqT.of upd_same)
theorem ix0 {v : V} {xs : List V} : atI (v :: xs) 0 = some v := atI_nat (xs := v :: xs) (j := 0) rfl
theorem ix1 {u v : V} {xs : List V} : atI (u :: v :: xs) 1 = some v := by
  have h : (1 : Int) < ((u :: v :: xs).length : Nat) := by simp only [List.length_cons]; omega
  exact atI_nat (xs := u :: v :: xs) (j := 1) rfl
theorem ok_built (TE : ETx P K mg) (mx : mg "max" = none) (mt : mg "tuple" = none) (GL : GOk P w K mg base (L2.CX P w) 2 "limited" ["node", "depth"] [] (spLimited TE)) (F : BTx K mg) : BOk P w K mg base 3 TE := by
  obtain ⟨f, fd, aE, m, hE, F⟩ := F
  obtain ⟨f1, fd1, m1, k1, b1, G1⟩ := GL
  obtain ⟨ds1, r1, B1⟩ := F.binds1 (ps := ["head", "inner", "names"]) 2 0 (by simp) rfl fun T kV doc pm an cdv ct us its hu hi => match us, its, hu, hi with | [_, _], [_], _, _ => ⟨_, rfl, rfl⟩
  obtain ⟨ds2, r2, B2⟩ := F.binds1 (ps := ["head", "inner", "names"]) 3 1 (by simp) rfl fun T kV doc pm an cdv ct us its hu hi => match us, its, hu, hi with | [_, _, _], [_], _, _ => ⟨_, rfl, rfl⟩
  have e1 : ds1 = [.ref aE] := by
    cases r1 with
    | cons a b =>
      cases b
      rw [show _ = Value.ref aE from a]
  have e2 : ds2 = [] := by cases r2; rfl
  subst e1 e2
  refine ⟨f, fd, aE, m, F.kp, hE, B2, B1, F.ok scBuilt (fun vs H Q E h => ?_) (fun cdv A outer s H vs Q E hr h => ?_)⟩
  · obtain ⟨_, _, _, _, _, _, _, rfl, _⟩ := h
    rfl
  obtain ⟨hd, il, nl, as, vs0, ns, xs, rfl, hI, hN, hx3, hne, h3, hl1, hl2, hp, q0, q1⟩ := h
  refine ⟨_, pss_cons (ps_set (i := 3) scBuilt.nd rfl (Or.inl rfl) (pe_op op_add pe_int (pe_callB (cr_max rfl) (by rfl) mx (by decide +kernel) (pa_cons
      (pe_lc (own := [("part", 4)]) (g := gName 4) (tt := tYes) (te := tOp (rIxT K) (tVar 4) (tC (.int 1))) rfl scBuilt.nd (pi_list (pv 1)) (blkOk_by (N := ["head", "inner", "names", "depth", "part"]) (sc := defScope (topS 27)) (by decide +kernel)) (fun _ _ _ _ _ => pg_name (i := 4) scBuilt.nd rfl (Or.inl rfl)) (fun _ _ _ _ _ => pts_nil)
        (fun _ _ _ _ _ => pe_ix ix_tup (pv 4) pe_int (fun _ _ => rfl))) pa_nil))))
    (pss_one (ps_ret (pe_call G1 hr (by rfl) m1 k1 b1 .nil (passes_call (takes_of rfl rfl rfl rfl) fun _ _ _ _ h => h) (pa_cons
      (pe_op op_cat2 (pe_op op_cat2 (pe_tup (pa_cons (pv 0) pa_nil)) (pv 2)) (pe_callTy call_tuple_of (by rfl) mt (by decide +kernel) (pa_cons
        (pe_lc (own := [("part", 4)]) (g := gName 4) (tt := tYes) (te := tOp (rIxT K) (tVar 4) (tC (.int 0))) rfl scBuilt.nd (pi_list (pv 1)) (blkOk_by (N := ["head", "inner", "names", "depth", "part"]) (sc := defScope (topS 27)) (by decide +kernel)) (fun _ _ _ _ _ => pg_name (i := 4) scBuilt.nd rfl (Or.inl rfl)) (fun _ _ _ _ _ => pts_nil)
          (fun _ _ _ _ _ => pe_ix ix_tup (pv 4) pe_int (fun _ _ => rfl))) pa_nil))) (pa_cons (pv 3) pa_nil))))), ?_⟩
  -- the depths
  refine ⟨_, rfl, il, rfl, ⟨_, SqL.of hI⟩, fun D hD => lc_list (K := K) (a := il) (xs := as.map V.ref) (fun i H' => Same H H' ∧ H' D = some (.lst (((ns.take i).map fun n : Nat => (n : Int)).map V.int)))
    ⟨same_new hD _, by rw [upd_same]; simp⟩ (fun i H' _ ⟨k, _⟩ => k.seq (SqL.of hI)) ?_ ?_⟩
  · rintro i x H' hx ⟨k, hL⟩
    obtain ⟨a, ha, rfl⟩ : ∃ a, as[i]? = some a ∧ x = V.ref a := by
      rw [List.getElem?_map] at hx
      cases e : as[i]? with
      | none => rw [e] at hx; cases hx
      | some a => rw [e] at hx; exact ⟨a, rfl, (Option.some.inj hx).symm⟩
    have hi := (List.getElem?_eq_some_iff.mp ha).1
    have hn : ns[i]? = some ns[i] := List.getElem?_eq_getElem (by omega)
    have hv : vs0[i]? = some vs0[i] := List.getElem?_eq_getElem (by omega)
    refine ⟨rfl, ?_⟩
    refine ⟨_, rfl, a, _, 1, _, rfl, rfl, SqT.of (k _ _ (hp i a _ _ ha hv hn)), ix1, _, hL, ?_, fun b o e => ?_, ?_⟩
    · rw [List.length_map, List.length_map, List.length_take, sizeLine_eq]
      omega
    · rw [upd_ne (ne_of_none e hD)]
      exact k b o e
    · rw [upd_same, List.take_succ, hn, List.map_append, List.map_append]
      rfl
  rintro H1 ⟨k1, hL1⟩
  rw [List.length_map, hl1, List.take_length] at hL1
  have hne' : ns ≠ [] := fun z => hne (List.length_eq_zero_iff.mp (by rw [hl1, z]; rfl))
  refine ⟨D, _, rfl, SqL.of hL1, by rw [List.length_map]; exact List.length_pos_iff.mpr hne', fun m hm1 hm2 => ?_⟩
  have em := max_is hne' hm1 hm2
  subst em
  refine ⟨_, _, rfl, rfl, ?_⟩
  -- the node
  refine ⟨_, rfl, (by show 1 ≤ sizeLine; decide), fun p1 hp1 => ?_⟩
  have k2 : Same H (upd H1 p1 (.tup [.str hd])) := k1.trans (same_new hp1 _)
  refine ⟨_, rfl, p1, nl, _, xs, rfl, rfl, SqT.of upd_same, ?_, by simp, by simp; omega, fun q2 H2 k3 hq2 => ?_⟩
  · rcases hN with (z | ⟨o, z⟩) | z
    · exact .inl (.inl (k2 _ _ z))
    · exact .inl (.inr ⟨o, k2 _ _ z⟩)
    · exact .inr z
  have k4 : Same H H2 := k2.trans k3
  refine ⟨_, rfl, il, rfl, ⟨_, SqL.of (k4 _ _ hI)⟩, fun D2 hD2 => lc_list (K := K) (a := il) (xs := as.map V.ref) (fun i H' => Same H2 H' ∧ H' D2 = some (.lst (vs0.take i)))
    ⟨same_new hD2 _, by rw [upd_same]; simp⟩ (fun i H' _ ⟨k, _⟩ => k.seq (SqL.of (k4 _ _ hI))) ?_ ?_⟩
  · rintro i x H' hx ⟨k, hL⟩
    obtain ⟨a, ha, rfl⟩ : ∃ a, as[i]? = some a ∧ x = V.ref a := by
      rw [List.getElem?_map] at hx
      cases e : as[i]? with
      | none => rw [e] at hx; cases hx
      | some a => rw [e] at hx; exact ⟨a, rfl, (Option.some.inj hx).symm⟩
    have hi := (List.getElem?_eq_some_iff.mp ha).1
    have hn : ns[i]? = some ns[i] := List.getElem?_eq_getElem (by omega)
    have hv : vs0[i]? = some vs0[i] := List.getElem?_eq_getElem (by omega)
    refine ⟨rfl, ?_⟩
    refine ⟨_, rfl, a, _, 0, _, rfl, rfl, SqT.of (k _ _ (k4 _ _ (hp i a _ _ ha hv hn))), ix0, _, hL, ?_, fun b o e => ?_, ?_⟩
    · rw [List.length_take, sizeLine_eq]
      omega
    · rw [upd_ne (ne_of_none e hD2)]
      exact k b o e
    · rw [upd_same, List.take_succ, hv]
      rfl
  rintro H3 ⟨k5, hL3⟩
  rw [List.length_map, hl2, List.take_length] at hL3
  refine ⟨D2, _, rfl, .inl ⟨SqL.of hL3, fun p4 hp4 => ?_⟩⟩
  have k6 : Same H2 (upd H3 p4 (.tup vs0)) := k5.trans (same_new hp4 _)
  refine ⟨q2, p4, [V.str hd] ++ xs, vs0, rfl, rfl, ?_, SqT.of upd_same, by simp, by simp; omega, fun q5 H5 k7 hq5 => ?_⟩
  · rcases hq2 with (z | ⟨o, z⟩) | z
    · exact .inl (.inl (k6 _ _ z))
    · exact .inl (.inr ⟨o, k6 _ _ z⟩)
    · exact .inr z
  have k8 : Same H H5 := k4.trans (k6.trans k7)
  refine ⟨_, rfl, V.ref q5, 1 + maxL ns, ?_, fun c => (q0 c).kp k8, fun c H6 q6 k9 hq6 => q1 c H6 q6 _ (k8.trans k9) hq6⟩
  show [V.ref q5, V.int (1 + ((maxL ns : Nat) : Int))] = _
  rw [show (1 + ((maxL ns : Nat) : Int)) = ((1 + maxL ns : Nat) : Int) by omega]
end
end Af

/-! W5: the promise of a part of the grammar, and its steps; plain_type. -/
namespace Af
open PySem PySem.Spec PyProof.Rows L2 Afd
section
variable {P : Program} {w : World} {K : PySem.W.Frag} {mg : Str → Option Value} {base : Heap} {C : Addr}
/-- what a part's reading leads to -/
def PostR (TE : ETx P K mg) (C : Addr) (R : RS) (d : Nat) (H : Hp) (out : Out (Nat × List Tk)) (Q : VK) (E : XK) : Prop := match out with
  | .no => False
  | .bad e => ErrP TE R.p H e E
  | .ok x => ∀ H' q v, Kp R.p H H' → RdAt C H' R x.2 d → H' q = some (.tup [v, .int (x.1 : Int)]) → Q (.ref q) H'
structure spNT (TE : ETx P K mg) (C : Addr) (nt : NT) (g : Nat) (vs : List V) (H : Hp) (Q : VK) (E : XK) : Prop where
  ex : ∃ (R : RS) (r : List Tk) (d g' : Nat), vs = [.ref R.p] ∧ g' ≤ g ∧ RdAt C H R r d ∧ PostR TE C R d H (Afd.P R.sz g' nt d r) Q E
variable {TE : ETx P K mg} {R : RS} {r : List Tk} {d d0 : Nat} {H H1 : Hp} {Q Q1 : VK} {E : XK} {z : Str} {v : Cs} {f : List Tk → Out (Nat × List Tk)}
theorem PostR.bad {e : Er} (h : PostR TE C R d H (.bad e) Q E) : ErrP TE R.p H e E := h
theorem PostR.fail {sz : Nat} (h : PostR TE C R d H (fail sz r) Q E) : ErrP TE R.p H (failE sz r) E := by rw [fail_eq] at h; exact h
theorem PostR.ok {x : Nat × List Tk} (h : PostR TE C R d H (.ok x) Q E) : ∀ H' q v, Kp R.p H H' → RdAt C H' R x.2 d → H' q = some (.tup [v, .int (x.1 : Int)]) → Q (.ref q) H' := h
theorem do_skip (hz : z = S v) (hR : RdAt C H1 R r d) (k : Kp R.p H H1) (h : PostR TE C R d0 H (skip R.sz v r f) Q E)
    (hok : PostR TE C R d0 H (f r.tail) Q E → ∀ H', Kp R.p H H' → RdAt C H' R r.tail d → (∀ b o, b ≠ R.p → H1 b = some o → H' b = some o) → Q1 .non H') : spSkip TE C [.ref R.p, .str z] H1 Q1 E := by
  subst hz
  unfold skip at h
  refine ⟨R, r, d, v, rfl, hR, fun c H' k' R' => ?_, fun c => ?_⟩
  · rw [if_pos c] at h
    exact hok h H' (k.trans k') R' k'
  · rw [if_neg (by rw [c]; decide)] at h
    exact h.fail.kp k
theorem do_take {kk : TK} (hz : z = kS kk) (hR : RdAt C H1 R r d) (k : Kp R.p H H1) (h : PostR TE C R d0 H (take R.sz kk r f) Q E)
    (hok : PostR TE C R d0 H (f r.tail) Q E → ∀ t, t.k = kk → ∀ H', Kp R.p H H' → RdAt C H' R r.tail d → (∀ b o, b ≠ R.p → H1 b = some o → H' b = some o) → Q1 (vV t) H') : spTake TE C [.ref R.p, .str z] H1 Q1 E := by
  subst hz
  unfold take at h
  refine ⟨R, r, d, kk, rfl, hR, fun c H' t ht k' R' => ?_, fun c => ?_⟩
  · rw [if_pos c] at h
    obtain ⟨t', r', rfl⟩ := isK_cons c
    obtain rfl : t' = t := Option.some.inj ht
    exact hok h t' (of_decide_eq_true c) H' (k.trans k') R' k'
  · rw [if_neg (by rw [c]; decide)] at h
    exact h.fail.kp k
theorem do_skips (hz : z = S v) (hR : RdAt C H1 R r d) (k : Kp R.p H H1) (ht : sees v r = true → ∀ H', Kp R.p H H' → RdAt C H' R r.tail d → (∀ b o, b ≠ R.p → H1 b = some o → H' b = some o) → Q1 (.bl true) H')
    (hf : sees v r = false → ∀ H', Kp R.p H H' → RdAt C H' R r d → (∀ b o, b ≠ R.p → H1 b = some o → H' b = some o) → Q1 (.bl false) H') : spSkips C [.ref R.p, .str z] H1 Q1 E := by
  subst hz
  exact ⟨R, r, d, v, rfl, hR, fun c H' k' R' => ht c H' (k.trans k') R' k', fun c H' k' R' => hf c H' (k.trans k') R' k'⟩
theorem do_sees (hz : z = S v) (hR : RdAt C H1 R r d) (k : Kp R.p H H1) (ht : ∀ H', Kp R.p H H' → RdAt C H' R r d → (∀ b o, b ≠ R.p → H1 b = some o → H' b = some o) → Q1 (.bl (sees v r)) H') : spSees C [.ref R.p, .str z] H1 Q1 E := by
  subst hz
  exact ⟨R, r, d, v, rfl, hR, fun H' k' R' => ht H' (k.trans k') R' k'⟩
theorem do_enter {f : Nat → Out (Nat × List Tk)} (hR : RdAt C H R r d) (h : PostR TE C R d H (ent d f) Q E)
    (hok : ∀ d', d = d' + 1 → PostR TE C R d H (f d') Q E → ∀ H', Kp R.p H H' → RdAt C H' R r d' → Q1 .non H') : spEnter TE C [.ref R.p] H Q1 E := by
  refine ⟨R, r, d, rfl, hR, fun c => ?_, fun d' c H' k' R' => ?_⟩
  · subst c
    exact h.bad
  · subst c
    exact hok d' rfl h H' k' R'
theorem do_leave {x : V} (hR : RdAt C H1 R r d) (k : Kp R.p H H1) (hd : d0 = d + 1) (h60 : d0 ≤ 60) (hok : ∀ H', Kp R.p H H' → RdAt C H' R r d0 → (∀ b o, b ≠ R.p → H1 b = some o → H' b = some o) → Q1 x H') : spLeave C [.ref R.p, x] H1 Q1 E := by
  subst hd
  exact ⟨R, r, d, x, rfl, hR, h60, fun H' k' R' => hok H' (k.trans k') R' k'⟩
/-- a part inside -/
theorem do_sub {nt : NT} {g g' : Nat} {fx : Nat × List Tk → Out (Nat × List Tk)} (hR : RdAt C H1 R r d) (k : Kp R.p H H1) (h : PostR TE C R d0 H ((Afd.P R.sz g' nt d r).bind fx) Q E)
    (hok : ∀ x, PostR TE C R d0 H (fx x) Q E → ∀ H' q u, Kp R.p H H' → RdAt C H' R x.2 d → H' q = some (.tup [u, .int (x.1 : Int)]) → (∀ b o, b ≠ R.p → H1 b = some o → H' b = some o) → Q1 (.ref q) H') (hle : g' ≤ g := by omega) : spNT TE C nt g [.ref R.p] H1 Q1 E := by
  refine ⟨R, r, d, g', rfl, hle, hR, ?_⟩
  cases e : Afd.P R.sz g' nt d r with
  | no => rw [e] at h; exact h.elim
  | bad e' => rw [e] at h; exact ErrP.kp (show ErrP TE R.p H e' E from h) k
  | ok x =>
    rw [e] at h
    exact fun H' q u k' R' hq => hok x h H' q u (k.trans k') R' hq k'
/-- a part that is the whole -/
theorem do_same {nt : NT} {g g' : Nat} (hR : RdAt C H1 R r d) (k : Kp R.p H H1) (h : PostR TE C R d0 H (Afd.P R.sz g' nt d r) Q E)
    (hok : ∀ x, PostR TE C R d0 H (.ok x) Q E → ∀ H' q u, Kp R.p H H' → RdAt C H' R x.2 d → H' q = some (.tup [u, .int (x.1 : Int)]) → (∀ b o, b ≠ R.p → H1 b = some o → H' b = some o) → Q1 (.ref q) H') (hle : g' ≤ g := by omega) : spNT TE C nt g [.ref R.p] H1 Q1 E := by
  refine do_sub (fx := fun x => .ok x) hR k ?_ hok
  cases e : Afd.P R.sz g' nt d r with
  | no => rw [e] at h; exact h
  | bad e' => rw [e] at h; exact h
  | ok x => rw [e] at h; exact h
theorem fuel_pos {nt : NT} {g : Nat} (h : PostR TE C R d H (Afd.P R.sz g nt d r) Q E) : ∃ g0, g = g0 + 1 := by
  cases g with
  | zero => exact h.elim
  | succ g => exact ⟨g, rfl⟩
/-- a node is built of its parts -/
theorem do_built {hd : Str} {il nl : Addr} {as : List Addr} {vs0 : List V} {ns : List Nat} {xs : List V} {m : Nat} {fx : Nat × List Tk → Out (Nat × List Tk)} (hI : H1 il = some (.lst (as.map V.ref))) (hN : SqT K H1 nl xs) (hx : xs.length ≤ 3) (hne : as ≠ []) (h3 : as.length ≤ 3) (hl1 : as.length = ns.length) (hl2 : as.length = vs0.length)
    (hp : ∀ (i : Nat) a v n, as[i]? = some a → vs0[i]? = some v → ns[i]? = some n → H1 a = some (.tup [v, .int ((n : Nat) : Int)])) (hR : RdAt C H1 R r d) (k : Kp R.p H H1) (hm : m = 1 + maxL ns) (h : PostR TE C R d0 H ((lim m r).bind fx) Q E)
    (hok : PostR TE C R d0 H (fx (m, r)) Q E → ∀ H' q u, Kp R.p H H' → RdAt C H' R r d → H' q = some (.tup [u, .int (m : Int)]) → (∀ b o, b ≠ R.p → H1 b = some o → H' b = some o) → Q1 (.ref q) H') : spBuilt TE [.str hd, .ref il, .ref nl] H1 Q1 E := by
  subst hm
  unfold lim at h
  refine ⟨hd, il, nl, as, vs0, ns, xs, rfl, hI, hN, hx, hne, h3, hl1, hl2, hp, fun c => ?_, fun c H' q u k' hq => ?_⟩
  · rw [if_pos c] at h
    exact (ErrP.kp (show ErrP TE R.p H .dep E from h) k).s
  · rw [if_neg (by omega)] at h
    exact hok h H' q u (k.trans (.same k')) (hR.same k') hq fun b o _ e => k' b o e
theorem bind_id (x : Out (Nat × List Tk)) : (x.bind fun y => .ok y) = x := by cases x <;> rfl
theorem p1 {H1 : Hp} {a : Addr} {u : V} {n : Nat} (h : H1 a = some (.tup [u, .int (n : Int)])) : ∀ (i : Nat) a' v' n', [a][i]? = some a' → [u][i]? = some v' → [n][i]? = some n' → H1 a' = some (.tup [v', .int ((n' : Nat) : Int)]) := by
  rintro (_ | i) a' v' n' h1 h2 h3
  · obtain rfl := Option.some.inj h1
    obtain rfl := Option.some.inj h2
    obtain rfl := Option.some.inj h3
    exact h
  · simp at h1
theorem p2 {H1 : Hp} {a b : Addr} {u v : V} {n m : Nat} (h : H1 a = some (.tup [u, .int (n : Int)])) (h' : H1 b = some (.tup [v, .int (m : Int)])) :
    ∀ (i : Nat) a' v' n', [a, b][i]? = some a' → [u, v][i]? = some v' → [n, m][i]? = some n' → H1 a' = some (.tup [v', .int ((n' : Nat) : Int)]) := by
  rintro (_ | i) a' v' n' h1 h2 h3
  · obtain rfl := Option.some.inj h1
    obtain rfl := Option.some.inj h2
    obtain rfl := Option.some.inj h3
    exact h
  · exact p1 h' i a' v' n' h1 h2 h3
theorem p3 {H1 : Hp} {a b c : Addr} {u v x : V} {n m l : Nat} (h : H1 a = some (.tup [u, .int (n : Int)])) (h' : H1 b = some (.tup [v, .int (m : Int)])) (h'' : H1 c = some (.tup [x, .int (l : Int)])) :
    ∀ (i : Nat) a' v' n', [a, b, c][i]? = some a' → [u, v, x][i]? = some v' → [n, m, l][i]? = some n' → H1 a' = some (.tup [v', .int ((n' : Nat) : Int)]) := by
  rintro (_ | i) a' v' n' h1 h2 h3
  · obtain rfl := Option.some.inj h1
    obtain rfl := Option.some.inj h2
    obtain rfl := Option.some.inj h3
    exact h
  · exact p2 h' h'' i a' v' n' h1 h2 h3
/-- a tuple that is no reader stands on -/
theorem tup_ne {H1 : Hp} (hR : RdAt C H1 R r d) {a : Addr} {xs : List V} (h : H1 a = some (.tup xs)) : a ≠ R.p := ne_of h hR.ins (by intro z; cases z)
theorem lst_ne {H1 : Hp} (hR : RdAt C H1 R r d) {a : Addr} {xs : List V} (h : H1 a = some (.lst xs)) : a ≠ R.p := ne_of h hR.ins (by intro z; cases z)
end
theorem no_skip : noF "skip" = true := by decide +kernel
theorem no_skips : noF "skips" = true := by decide +kernel
theorem no_take : noF "take" = true := by decide +kernel
theorem no_enter : noF "enter" = true := by decide +kernel
theorem no_leave : noF "leave" = true := by decide +kernel
theorem no_ty : noF "plain_type" = true := by decide +kernel
theorem no_expr : noF "expression" = true := by decide +kernel
theorem no_choice : noF "choice" = true := by decide +kernel
theorem no_handler : noF "handler" = true := by decide +kernel
theorem no_cmp : noF "comparison" = true := by decide +kernel
theorem no_add : noF "addition" = true := by decide +kernel
theorem no_mul : noF "multiplication" = true := by decide +kernel
theorem no_pre : noF "prefix" = true := by decide +kernel
theorem no_beg : noF "begins_atom" = true := by decide +kernel
theorem no_atom : noF "atom" = true := by decide +kernel
theorem no_prog : noF "program" = true := by decide +kernel
/-- the small methods and built, together -/
structure Small (P : Program) (w : World) (K : PySem.W.Frag) (mg : Str → Option Value) (base : Heap) (C : Addr) (TE : ETx P K mg) : Prop where
  T : RTx K mg C
  sees : MOk P w K mg base C CX0 1 "sees" ["self", "value"] (spSees C)
  fail : MOk P w K mg base C (L2.CX P w) 2 "fail" ["self"] (spFail TE C)
  skip : MOk P w K mg base C (L2.CX P w) 3 "skip" ["self", "value"] (spSkip TE C)
  skips : MOk P w K mg base C CX0 2 "skips" ["self", "value"] (spSkips C)
  take : MOk P w K mg base C (L2.CX P w) 3 "take" ["self", "kind"] (spTake TE C)
  enter : MOk P w K mg base C (L2.CX P w) 2 "enter" ["self"] (spEnter TE C)
  leave : MOk P w K mg base C CX0 1 "leave" ["self", "node"] (spLeave C)
  beg : MOk P w K mg base C CX0 1 "begins_atom" ["self"] (spBeg C)
  built : BOk P w K mg base 3 TE
  lim : GOk P w K mg base (L2.CX P w) 2 "limited" ["node", "depth"] [] (spLimited TE)
/-- a part's method keeps its promise with the fuel g -/
def NOk (P : Program) (w : World) (K : PySem.W.Frag) (mg : Str → Option Value) (base : Heap) (C : Addr) (TE : ETx P K mg) (x : Str) (nt : NT) (g : Nat) : Prop := MOk P w K mg base C (L2.CX P w) (g + 6) x ["self"] (spNT TE C nt g)
section
variable {P : Program} {w : World} {K : PySem.W.Frag} {mg : Str → Option Value} {base : Heap} {C : Addr} {TE : ETx P K mg}
theorem scTy : FnScope ["self", "word", "first", "second"] ["self"] (defScope (meS 9)) := ⟨rfl, rfl, rfl, by decide +kernel, rfl, by decide +kernel, by decide +kernel⟩
theorem ok_ty (M : Small P w K mg base C TE) (F : MTx K C 9 "plain_type" "Reader.plain_type" ["self"]) {g : Nat} (GT : NOk P w K mg base C TE "plain_type" .ty g) : NOk P w K mg base C TE "plain_type" .ty (g + 1) := by
  obtain ⟨f, fd, m, b, F⟩ := F
  obtain ⟨f1, fd1, m1, b1, G1⟩ := M.enter
  obtain ⟨f2, fd2, m2, b2, G2⟩ := M.skips
  obtain ⟨f3, fd3, m3, b3, G3⟩ := M.leave
  obtain ⟨f4, fd4, m4, b4, G4⟩ := M.skip
  obtain ⟨f5, fd5, aE, m5, k5, hE, b5, b5', G5⟩ := M.built
  obtain ⟨f6, fd6, m6, b6, G6⟩ := GT
  have T := M.T
  refine ⟨f, fd, m, b, F.okX scTy (fun vs H Q E h => ?_) (fun cdv A outer s H vs Q E hr h => ?_)⟩
  · obtain ⟨R, r, d, gg, rfl, _⟩ := h
    rfl
  obtain ⟨R, r, d, gg, rfl, hg, hR, q⟩ := h
  obtain ⟨g0, rfl⟩ := fuel_pos q
  have hdE : Vals [V.ref aE] [Value.ref aE] := .cons rfl .nil
  refine ⟨_, (pss_cons (ps_expr (pe_meth0 (pv 0) T.cl m1 G1 (hr.mono (by omega)) b1 .nil (passes_call (takes_of rfl rfl rfl rfl) fun _ _ _ _ h => h)))
    (pss_cons (ps_for (passes_of rfl) rfl (pi_tup (pe_tup (pa_cons pe_str (pa_cons pe_str (pa_cons pe_str pa_nil))))) (pg_name (i := 1) scTy.nd rfl (Or.inl rfl)) (pss_one (ps_if (pt_val (pe_meth (pv 0) T.cl m2 G2 (hr.mono (by omega)) b2 .nil pass0 (pa_cons (pv 1) pa_nil))) (pss_one (ps_ret (pe_meth (pv 0) T.cl m3 G3 (hr.mono (by omega)) b3 .nil pass0 (pa_cons (pe_tup (pa_cons (pe_tup (pa_cons (pv 1) pa_nil)) (pa_cons pe_int pa_nil))) pa_nil)))) pss_nil)))
    (pss_cons (ps_expr (pe_meth (pv 0) T.cl m4 G4 (hr.mono (by omega)) b4 .nil (passes_call (takes_of rfl rfl rfl rfl) fun _ _ _ _ h => h) (pa_cons pe_str pa_nil)))
    (pss_cons (ps_set (i := 2) scTy.nd rfl (Or.inl rfl) (pe_meth0 (pv 0) T.cl m6 G6 (hr.mono (by omega)) b6 .nil (passes_call (takes_of rfl rfl rfl rfl) fun _ _ _ _ h => h)))
    (pss_cons (ps_expr (pe_meth (pv 0) T.cl m4 G4 (hr.mono (by omega)) b4 .nil (passes_call (takes_of rfl rfl rfl rfl) fun _ _ _ _ h => h) (pa_cons pe_str pa_nil)))
    (pss_cons (ps_set (i := 3) scTy.nd rfl (Or.inl rfl) (pe_meth0 (pv 0) T.cl m6 G6 (hr.mono (by omega)) b6 .nil (passes_call (takes_of rfl rfl rfl rfl) fun _ _ _ _ h => h)))
    (pss_cons (ps_expr (pe_meth (pv 0) T.cl m4 G4 (hr.mono (by omega)) b4 .nil (passes_call (takes_of rfl rfl rfl rfl) fun _ _ _ _ h => h) (pa_cons pe_str pa_nil)))
    (pss_one (ps_ret (pe_meth (pv 0) T.cl m3 G3 (hr.mono (by omega)) b3 .nil pass0 (pa_cons (pe_call G5 (hr.mono (by omega)) (by rfl) m5 k5 b5' hdE (passes_call (takes_of rfl rfl rfl rfl) fun _ _ _ _ h => h) (pa_cons pe_str (pa_cons (pe_lst (pa_cons (pv 2) (pa_cons (pv 3) pa_nil))) pa_nil))) pa_nil))))))))))), ?_⟩
  have d60 := hR.d60
  refine ⟨_, rfl, g_meth hR no_enter ?_⟩
  refine do_enter hR q fun d' e q H1 k1 R1 => ?_
  subst e
  refine ⟨(by show 3 ≤ sizeLine; decide), fun p hp => ⟨p, rfl, ⟨_, SqT.of upd_same⟩, for_tup (K := K) (a := p) (xs := [.str "int", .str "bool", .str "unit"])
    (fun i σ' H' => (∃ o, σ' = [some (.ref R.p), o, none, none]) ∧ Kp R.p H H' ∧ RdAt C H' R r d' ∧ H' p = some (.tup [.str "int", .str "bool", .str "unit"]) ∧ ∀ w ∈ [wInt, wBool, wUnit].take i, sees w r = false)
    ⟨⟨none, rfl⟩, k1.trans (.new hp _), R1.same (same_new hp _), upd_same, by simp⟩ (fun i σ' H' _ h => SqT.of h.2.2.2.1) ?_ ?_⟩⟩
  · rintro i x σ' H' hx ⟨⟨o, rfl⟩, k2, R2, hp2, hno⟩
    obtain ⟨wd, hw, rfl⟩ : ∃ wd, [wInt, wBool, wUnit][i]? = some wd ∧ x = .str (S wd) := by
      match i, hx with
      | 0, hx => exact ⟨wInt, rfl, by rw [← Option.some.inj hx, z_int]⟩
      | 1, hx => exact ⟨wBool, rfl, by rw [← Option.some.inj hx, z_bool]⟩
      | 2, hx => exact ⟨wUnit, rfl, by rw [← Option.some.inj hx, z_unit]⟩
      | i + 3, hx => simp at hx
    refine ⟨_, rfl, g_meth R2 no_skips ?_⟩
    refine ⟨_, rfl, ?_⟩
    refine do_skips (H := H) rfl R2 k2 (fun c H3 k3 R3 f3 => ⟨_, rfl, iteT ?_⟩) (fun c H3 k3 R3 f3 => ⟨_, rfl, iteF ?_⟩)
    · refine ⟨_, rfl, g_meth R3 no_leave ?_⟩
      refine ⟨_, rfl, (by show 1 ≤ sizeLine; decide), fun p1 hp1 => ⟨(by show 2 ≤ sizeLine; decide), fun p2 hp2 => ?_⟩⟩
      have s := (same_new hp1 (.tup [.str (S wd)])).trans (same_new hp2 (.tup [.ref p1, .int 1]))
      refine do_leave (H := H) (R3.same s) (k3.trans (.same s)) rfl d60 (fun H4 k4 R4 f4 => ?_)
      have hs : (sees wInt r || sees wBool r || sees wUnit r) = true := by
        match i, hw with
        | 0, hw => rw [Option.some.inj hw, c]; rfl
        | 1, hw => rw [Option.some.inj hw, c, Bool.or_true]; rfl
        | 2, hw => rw [Option.some.inj hw, c, Bool.or_true]
        | i + 3, hw => simp at hw
      rw [if_pos hs] at q
      exact q H4 p2 (.ref p1) k4 R4 (f4 p2 _ (tup_ne (R3.same s) upd_same) upd_same)
    · refine ⟨⟨_, rfl⟩, k3, R3, f3 p _ (tup_ne R2 hp2) hp2, fun w' hw' => ?_⟩
      rw [List.take_succ, hw] at hw'
      rcases List.mem_append.mp hw' with z | z
      · exact hno w' z
      · obtain rfl : w' = wd := by simpa using z
        exact c
  rintro σ' H2 ⟨⟨o, rfl⟩, k2, R2, _, hno⟩
  have hs : (sees wInt r || sees wBool r || sees wUnit r) = false := by
    rw [hno wInt (by decide), hno wBool (by decide), hno wUnit (by decide)]
    rfl
  rw [if_neg (by rw [hs]; decide)] at q
  refine ⟨_, rfl, g_meth R2 no_skip ?_⟩
  refine do_skip z_sLp R2 k2 q (fun q H3 k3 R3 f3 => ?_)
  refine ⟨_, rfl, g_meth R3 no_ty ?_⟩
  refine do_sub R3 k3 q (fun x q H4 q4 u4 k4 R4 h4 f4 => ?_)
  refine ⟨_, rfl, g_meth R4 no_skip ?_⟩
  refine do_skip z_sCom R4 k4 q (fun q H5 k5 R5 f5 => ?_)
  refine ⟨_, rfl, g_meth R5 no_ty ?_⟩
  refine do_sub R5 k5 q (fun y q H6 q6 u6 k6 R6 h6 f6 => ?_)
  refine ⟨_, rfl, g_meth R6 no_skip ?_⟩
  refine do_skip z_sRp R6 k6 q (fun q H7 k7 R7 f7 => ?_)
  refine ⟨_, rfl, g_meth R7 no_leave ?_⟩
  refine ⟨_, rfl, _, rfl, (by show 2 ≤ sizeLine; decide), fun l hl => ?_⟩
  have s7 := same_new hl (.lst [.ref q4, .ref q6])
  have e5 := f5 _ _ (tup_ne R4 h4) h4
  have e6 := f6 _ _ (tup_ne R5 e5) e5
  have e7 := s7 _ _ (f7 _ _ (tup_ne R6 e6) e6)
  have e7' := s7 _ _ (f7 _ _ (tup_ne R6 h6) h6)
  refine do_built (H := H) (fx := fun x => .ok x) (as := [q4, q6]) (vs0 := [u4, u6]) (ns := [x.1, y.1]) (xs := []) upd_same (hE.sq _) (by simp) (by simp) (by simp) rfl rfl (p2 e7 e7') (R7.same s7) (k7.trans (.same s7)) rfl (by rw [bind_id]; exact q) (fun q H8 q8 u8 k8 R8 h8 f8 => ?_)
  refine do_leave (H := H) R8 k8 rfl d60 (fun H9 k9 R9 f9 => ?_)
  exact q H9 q8 u8 k9 R9 (f9 _ _ (tup_ne R8 h8) h8)
end
end Af

/-! W6: the parts of an expression. -/
namespace Af
open PySem PySem.Spec PyProof.Rows L2 Afd
theorem z_name : ("name" : Str) = kS .name := rfl
section
variable {P : Program} {w : World} {K : PySem.W.Frag} {mg : Str → Option Value} {base : Heap} {C : Addr} {TE : ETx P K mg}
theorem scChoice : FnScope ["self", "test", "first"] ["self"] (defScope (meS 11)) := ⟨rfl, rfl, rfl, by decide +kernel, rfl, by decide +kernel, by decide +kernel⟩
theorem ok_choice (M : Small P w K mg base C TE) (F : MTx K C 11 "choice" "Reader.choice" ["self"]) {g : Nat} (NE : NOk P w K mg base C TE "expression" .expr g) : NOk P w K mg base C TE "choice" .choice (g + 1) := by
  obtain ⟨f, fd, m, b, F⟩ := F
  obtain ⟨f1, fd1, m1, b1, G1⟩ := M.enter
  obtain ⟨f2, fd2, m2, b2, G2⟩ := M.skips
  obtain ⟨f3, fd3, m3, b3, G3⟩ := M.leave
  obtain ⟨f4, fd4, m4, b4, G4⟩ := M.skip
  obtain ⟨f5, fd5, aE, m5, k5, hE, b5, b5', G5⟩ := M.built
  obtain ⟨f6, fd6, m6, b6, G6⟩ := M.take
  obtain ⟨f7, fd7, m7, b7, G7⟩ := M.sees
  obtain ⟨f8, fd8, m8, b8, G8⟩ := M.beg
  obtain ⟨f9, fd9, m9, b9, G9⟩ := M.fail
  obtain ⟨f0, fd0, m0, k0, b0, G0⟩ := M.lim
  obtain ⟨fE, fdE, mE, bE, GE⟩ := NE
  have T := M.T
  have hdE : Vals [V.ref aE] [Value.ref aE] := .cons rfl .nil
  refine ⟨f, fd, m, b, F.okX scChoice (fun vs H Q E h => ?_) (fun cdv A outer s H vs Q E hr h => ?_)⟩
  · obtain ⟨R, r, d, gg, rfl, _⟩ := h
    rfl
  obtain ⟨R, r, d, gg, rfl, hg, hR, q⟩ := h
  obtain ⟨g0, rfl⟩ := fuel_pos q
  refine ⟨_, (pss_cons (ps_set (i := 1) scChoice.nd rfl (Or.inl rfl) (pe_meth0 (pv 0) T.cl mE GE (hr.mono (by omega)) bE .nil (passes_call (takes_of rfl rfl rfl rfl) fun _ _ _ _ h => h)))
    (pss_cons (ps_expr (pe_meth (pv 0) T.cl m4 G4 (hr.mono (by omega)) b4 .nil (passes_call (takes_of rfl rfl rfl rfl) fun _ _ _ _ h => h) (pa_cons pe_str pa_nil)))
    (pss_cons (ps_set (i := 2) scChoice.nd rfl (Or.inl rfl) (pe_meth0 (pv 0) T.cl mE GE (hr.mono (by omega)) bE .nil (passes_call (takes_of rfl rfl rfl rfl) fun _ _ _ _ h => h)))
    (pss_cons (ps_expr (pe_meth (pv 0) T.cl m4 G4 (hr.mono (by omega)) b4 .nil (passes_call (takes_of rfl rfl rfl rfl) fun _ _ _ _ h => h) (pa_cons pe_str pa_nil)))
    (pss_one (ps_ret (pe_call G5 (hr.mono (by omega)) (by rfl) m5 k5 b5' hdE (passes_call (takes_of rfl rfl rfl rfl) fun _ _ _ _ h => h) (pa_cons pe_str (pa_cons (pe_lst (pa_cons (pv 1) (pa_cons (pv 2) (pa_cons (pe_meth0 (pv 0) T.cl mE GE (hr.mono (by omega)) bE .nil (passes_call (takes_of rfl rfl rfl rfl) fun _ _ _ _ h => h)) pa_nil)))) pa_nil))))))))), ?_⟩
  have k0 := Kp.refl R.p H
  refine ⟨_, rfl, g_meth hR no_expr ?_⟩
  refine do_sub hR k0 q (fun x q H1 q1 u1 k1 R1 h1 f1 => ?_)
  refine ⟨_, rfl, g_meth R1 no_skip ?_⟩
  refine do_skip z_then R1 k1 q (fun q H2 k2 R2 f2 => ?_)
  refine ⟨_, rfl, g_meth R2 no_expr ?_⟩
  refine do_sub R2 k2 q (fun y q H3 q3 u3 k3 R3 h3 f3 => ?_)
  refine ⟨_, rfl, g_meth R3 no_skip ?_⟩
  refine do_skip z_else R3 k3 q (fun q H4 k4 R4 f4 => ?_)
  refine ⟨_, rfl, _, rfl, _, rfl, g_meth R4 no_expr ?_⟩
  refine do_sub R4 k4 q (fun z q H5 q5 u5 k5 R5 h5 f5 => ?_)
  refine ⟨(by show 3 ≤ sizeLine; decide), fun l hl => ?_⟩
  have s5 := same_new hl (.lst [.ref q1, .ref q3, .ref q5])
  have e2 := f2 _ _ (tup_ne R1 h1) h1
  have e3 := f3 _ _ (tup_ne R2 e2) e2
  have e4 := f4 _ _ (tup_ne R3 e3) e3
  have e5 := s5 _ _ (f5 _ _ (tup_ne R4 e4) e4)
  have e4' := f4 _ _ (tup_ne R3 h3) h3
  have e5' := s5 _ _ (f5 _ _ (tup_ne R4 e4') e4')
  have e5'' := s5 _ _ h5
  refine do_built (H := H) (fx := fun x => .ok x) (as := [q1, q3, q5]) (vs0 := [u1, u3, u5]) (ns := [x.1, y.1, z.1]) (xs := []) upd_same (hE.sq _) (by simp) (by simp) (by simp) rfl rfl (p3 e5 e5' e5'') (R5.same s5) (k5.trans (.same s5)) rfl (by rw [bind_id]; exact q) (fun q H8 q8 u8 k8 R8 h8 f8 => ?_)
  exact q H8 q8 u8 k8 R8 h8
theorem scCmp : FnScope ["self", "left", "sign"] ["self"] (defScope (meS 13)) := ⟨rfl, rfl, rfl, by decide +kernel, rfl, by decide +kernel, by decide +kernel⟩
theorem ok_cmp (M : Small P w K mg base C TE) (F : MTx K C 13 "comparison" "Reader.comparison" ["self"]) {g : Nat} (NA : NOk P w K mg base C TE "addition" .add g) : NOk P w K mg base C TE "comparison" .cmp (g + 1) := by
  obtain ⟨f, fd, m, b, F⟩ := F
  obtain ⟨f1, fd1, m1, b1, G1⟩ := M.enter
  obtain ⟨f2, fd2, m2, b2, G2⟩ := M.skips
  obtain ⟨f3, fd3, m3, b3, G3⟩ := M.leave
  obtain ⟨f4, fd4, m4, b4, G4⟩ := M.skip
  obtain ⟨f5, fd5, aE, m5, k5, hE, b5, b5', G5⟩ := M.built
  obtain ⟨f6, fd6, m6, b6, G6⟩ := M.take
  obtain ⟨f7, fd7, m7, b7, G7⟩ := M.sees
  obtain ⟨f8, fd8, m8, b8, G8⟩ := M.beg
  obtain ⟨f9, fd9, m9, b9, G9⟩ := M.fail
  obtain ⟨f0, fd0, m0, k0, b0, G0⟩ := M.lim
  obtain ⟨fA, fdA, mA, bA, GA⟩ := NA
  have T := M.T
  have hdE : Vals [V.ref aE] [Value.ref aE] := .cons rfl .nil
  refine ⟨f, fd, m, b, F.okX scCmp (fun vs H Q E h => ?_) (fun cdv A outer s H vs Q E hr h => ?_)⟩
  · obtain ⟨R, r, d, gg, rfl, _⟩ := h
    rfl
  obtain ⟨R, r, d, gg, rfl, hg, hR, q⟩ := h
  obtain ⟨g0, rfl⟩ := fuel_pos q
  refine ⟨_, (pss_cons (ps_set (i := 1) scCmp.nd rfl (Or.inl rfl) (pe_meth0 (pv 0) T.cl mA GA (hr.mono (by omega)) bA .nil (passes_call (takes_of rfl rfl rfl rfl) fun _ _ _ _ h => h)))
    (pss_cons (ps_for (passes_of rfl) rfl (pi_tup (pe_tup (pa_cons pe_str (pa_cons pe_str pa_nil)))) (pg_name (i := 2) scCmp.nd rfl (Or.inl rfl)) (pss_one (ps_if (pt_val (pe_meth (pv 0) T.cl m2 G2 (hr.mono (by omega)) b2 .nil pass0 (pa_cons (pv 2) pa_nil))) (pss_one (ps_ret (pe_call G5 (hr.mono (by omega)) (by rfl) m5 k5 b5 .nil (passes_call (takes_of rfl rfl rfl rfl) fun _ _ _ _ h => h) (pa_cons pe_str (pa_cons (pe_lst (pa_cons (pv 1) (pa_cons (pe_meth0 (pv 0) T.cl mA GA (hr.mono (by omega)) bA .nil (passes_call (takes_of rfl rfl rfl rfl) fun _ _ _ _ h => h)) pa_nil))) (pa_cons (pe_tup (pa_cons (pv 2) pa_nil)) pa_nil)))))) pss_nil)))
    (pss_one (ps_ret (pv 1))))), ?_⟩
  have k0 := Kp.refl R.p H
  refine ⟨_, rfl, g_meth hR no_add ?_⟩
  refine do_sub hR k0 q (fun x q H1 q1 u1 k1 R1 h1 f1 => ?_)
  refine ⟨(by show 2 ≤ sizeLine; decide), fun p hp => ⟨p, rfl, ⟨_, SqT.of upd_same⟩, for_tup (K := K) (a := p) (xs := [.str "<", .str "=="])
    (fun i σ' H' => (∃ o, σ' = [some (.ref R.p), some (.ref q1), o]) ∧ Kp R.p H H' ∧ RdAt C H' R x.2 d ∧ H' p = some (.tup [.str "<", .str "=="]) ∧ H' q1 = some (.tup [u1, .int (x.1 : Int)]) ∧ ∀ w ∈ [sLt, sEqq].take i, sees w x.2 = false)
    ⟨⟨none, rfl⟩, k1.trans (.new hp _), R1.same (same_new hp _), upd_same, same_new hp _ _ _ h1, by simp⟩ (fun i σ' H' _ h => SqT.of h.2.2.2.1) ?_ ?_⟩⟩
  · rintro i s σ' H' hs ⟨⟨o, rfl⟩, k2, R2, hp2, hq2, hno⟩
    obtain ⟨wd, hw, rfl⟩ : ∃ wd, [sLt, sEqq][i]? = some wd ∧ s = .str (S wd) := by
      match i, hs with
      | 0, hx => exact ⟨sLt, rfl, by rw [← Option.some.inj hx, z_sLt]⟩
      | 1, hx => exact ⟨sEqq, rfl, by rw [← Option.some.inj hx, z_sEqq]⟩
      | i + 2, hx => simp at hx
    refine ⟨_, rfl, g_meth R2 no_skips ?_⟩
    refine ⟨_, rfl, ?_⟩
    refine do_skips (H := H) rfl R2 k2 (fun c H3 k3 R3 f3 => ⟨_, rfl, iteT ?_⟩) (fun c H3 k3 R3 f3 => ⟨_, rfl, iteF ?_⟩)
    · have hc : (sees sLt x.2 || sees sEqq x.2) = true := by
        match i, hw with
        | 0, hw => rw [Option.some.inj hw, c]; rfl
        | 1, hw => rw [Option.some.inj hw, c, Bool.or_true]
        | i + 2, hw => simp at hw
      rw [if_pos hc] at q
      refine ⟨_, rfl, _, rfl, g_meth R3 no_add ?_⟩
      refine do_sub R3 k3 q (fun y q H5 q5 u5 k5 R5 h5 f5 => ?_)
      refine ⟨(by show 2 ≤ sizeLine; decide), fun l hl => ?_⟩
      refine ⟨_, rfl, (by show 1 ≤ sizeLine; decide), fun t ht => ?_⟩
      have s5 := (same_new hl (.lst [.ref q1, .ref q5])).trans (same_new ht (.tup [.str (S wd)]))
      have e3 := f3 _ _ (tup_ne R2 hq2) hq2
      have e5 := s5 _ _ (f5 _ _ (tup_ne R3 e3) e3)
      have e5' := s5 _ _ h5
      refine do_built (H := H) (fx := fun x => .ok x) (as := [q1, q5]) (vs0 := [u1, u5]) (ns := [x.1, y.1]) (xs := [.str (S wd)]) (same_new ht _ _ _ upd_same) (SqT.of upd_same) (by simp) (by simp) (by simp) rfl rfl (p2 e5 e5') (R5.same s5) (k5.trans (.same s5)) rfl (by rw [bind_id]; exact q) (fun q H8 q8 u8 k8 R8 h8 f8 => ?_)
      exact q H8 q8 u8 k8 R8 h8
    · refine ⟨⟨_, rfl⟩, k3, R3, f3 p _ (tup_ne R2 hp2) hp2, f3 q1 _ (tup_ne R2 hq2) hq2, fun w' hw' => ?_⟩
      rw [List.take_succ, hw] at hw'
      rcases List.mem_append.mp hw' with z | z
      · exact hno w' z
      · obtain rfl : w' = wd := by simpa using z
        exact c
  rintro σ' H2 ⟨⟨o, rfl⟩, k2, R2, _, hq2, hno⟩
  have hc : (sees sLt x.2 || sees sEqq x.2) = false := by
    rw [hno sLt (by decide), hno sEqq (by decide)]
    rfl
  rw [if_neg (by rw [hc]; decide)] at q
  exact ⟨_, rfl, q H2 q1 u1 k2 R2 hq2⟩
theorem scExpr : FnScope ["self", "name", "names", "value"] ["self"] (defScope (meS 10)) := ⟨rfl, rfl, rfl, by decide +kernel, rfl, by decide +kernel, by decide +kernel⟩
theorem ok_expr (M : Small P w K mg base C TE) (F : MTx K C 10 "expression" "Reader.expression" ["self"]) {g : Nat} (NE : NOk P w K mg base C TE "expression" .expr g) (NA : NOk P w K mg base C TE "addition" .add g) (NC : NOk P w K mg base C TE "choice" .choice g) (ND : NOk P w K mg base C TE "handler" .handler g) (NB : NOk P w K mg base C TE "comparison" .cmp g) : NOk P w K mg base C TE "expression" .expr (g + 1) := by
  obtain ⟨f, fd, m, b, F⟩ := F
  obtain ⟨f1, fd1, m1, b1, G1⟩ := M.enter
  obtain ⟨f2, fd2, m2, b2, G2⟩ := M.skips
  obtain ⟨f3, fd3, m3, b3, G3⟩ := M.leave
  obtain ⟨f4, fd4, m4, b4, G4⟩ := M.skip
  obtain ⟨f5, fd5, aE, m5, k5, hE, b5, b5', G5⟩ := M.built
  obtain ⟨f6, fd6, m6, b6, G6⟩ := M.take
  obtain ⟨f7, fd7, m7, b7, G7⟩ := M.sees
  obtain ⟨f8, fd8, m8, b8, G8⟩ := M.beg
  obtain ⟨f9, fd9, m9, b9, G9⟩ := M.fail
  obtain ⟨f0, fd0, m0, k0, b0, G0⟩ := M.lim
  obtain ⟨fE, fdE, mE, bE, GE⟩ := NE
  obtain ⟨fA, fdA, mA, bA, GA⟩ := NA
  obtain ⟨fC, fdC, mC, bC, GC⟩ := NC
  obtain ⟨fD, fdD, mD, bD, GD⟩ := ND
  obtain ⟨fB, fdB, mB, bB, GB⟩ := NB
  have T := M.T
  have hdE : Vals [V.ref aE] [Value.ref aE] := .cons rfl .nil
  refine ⟨f, fd, m, b, F.okX scExpr (fun vs H Q E h => ?_) (fun cdv A outer s H vs Q E hr h => ?_)⟩
  · obtain ⟨R, r, d, gg, rfl, _⟩ := h
    rfl
  obtain ⟨R, r, d, gg, rfl, hg, hR, q⟩ := h
  obtain ⟨g0, rfl⟩ := fuel_pos q
  refine ⟨_, (pss_cons (ps_expr (pe_meth0 (pv 0) T.cl m1 G1 (hr.mono (by omega)) b1 .nil (passes_call (takes_of rfl rfl rfl rfl) fun _ _ _ _ h => h)))
    (pss_cons (ps_if (pt_val (pe_meth (pv 0) T.cl m2 G2 (hr.mono (by omega)) b2 .nil pass0 (pa_cons pe_str pa_nil))) (pss_cons (ps_set (i := 1) scExpr.nd rfl (Or.inl rfl) (pe_meth (pv 0) T.cl m6 G6 (hr.mono (by omega)) b6 .nil (passes_call (takes_of rfl rfl rfl rfl) fun _ _ _ _ h => h) (pa_cons pe_str pa_nil)))
    (pss_cons (ps_expr (pe_meth (pv 0) T.cl m4 G4 (hr.mono (by omega)) b4 .nil (passes_call (takes_of rfl rfl rfl rfl) fun _ _ _ _ h => h) (pa_cons pe_str pa_nil)))
    (pss_one (ps_ret (pe_meth (pv 0) T.cl m3 G3 (hr.mono (by omega)) b3 .nil pass0 (pa_cons (pe_call G5 (hr.mono (by omega)) (by rfl) m5 k5 b5 .nil (passes_call (takes_of rfl rfl rfl rfl) fun _ _ _ _ h => h) (pa_cons pe_str (pa_cons (pe_lst (pa_cons (pe_meth0 (pv 0) T.cl mE GE (hr.mono (by omega)) bE .nil (passes_call (takes_of rfl rfl rfl rfl) fun _ _ _ _ h => h)) pa_nil)) (pa_cons (pe_tup (pa_cons (pv 1) pa_nil)) pa_nil)))) pa_nil)))))) pss_nil)
    (pss_cons (ps_if (pt_val (pe_meth (pv 0) T.cl m2 G2 (hr.mono (by omega)) b2 .nil pass0 (pa_cons pe_str pa_nil))) (pss_cons (ps_set (i := 2) scExpr.nd rfl (Or.inl rfl) (pe_tup (pa_cons (pe_meth (pv 0) T.cl m6 G6 (hr.mono (by omega)) b6 .nil (passes_call (takes_of rfl rfl rfl rfl) fun _ _ _ _ h => h) (pa_cons pe_str pa_nil)) (pa_cons (pe_meth (pv 0) T.cl m6 G6 (hr.mono (by omega)) b6 .nil (passes_call (takes_of rfl rfl rfl rfl) fun _ _ _ _ h => h) (pa_cons pe_str pa_nil)) pa_nil))))
    (pss_cons (ps_expr (pe_meth (pv 0) T.cl m4 G4 (hr.mono (by omega)) b4 .nil (passes_call (takes_of rfl rfl rfl rfl) fun _ _ _ _ h => h) (pa_cons pe_str pa_nil)))
    (pss_one (ps_ret (pe_meth (pv 0) T.cl m3 G3 (hr.mono (by omega)) b3 .nil pass0 (pa_cons (pe_call G5 (hr.mono (by omega)) (by rfl) m5 k5 b5 .nil (passes_call (takes_of rfl rfl rfl rfl) fun _ _ _ _ h => h) (pa_cons pe_str (pa_cons (pe_lst (pa_cons (pe_meth0 (pv 0) T.cl mE GE (hr.mono (by omega)) bE .nil (passes_call (takes_of rfl rfl rfl rfl) fun _ _ _ _ h => h)) pa_nil)) (pa_cons (pv 2) pa_nil)))) pa_nil)))))) pss_nil)
    (pss_cons (ps_if (pt_val (pe_meth (pv 0) T.cl m2 G2 (hr.mono (by omega)) b2 .nil pass0 (pa_cons pe_str pa_nil))) (pss_cons (ps_set (i := 1) scExpr.nd rfl (Or.inl rfl) (pe_meth (pv 0) T.cl m6 G6 (hr.mono (by omega)) b6 .nil (passes_call (takes_of rfl rfl rfl rfl) fun _ _ _ _ h => h) (pa_cons pe_str pa_nil)))
    (pss_cons (ps_expr (pe_meth (pv 0) T.cl m4 G4 (hr.mono (by omega)) b4 .nil (passes_call (takes_of rfl rfl rfl rfl) fun _ _ _ _ h => h) (pa_cons pe_str pa_nil)))
    (pss_cons (ps_set (i := 3) scExpr.nd rfl (Or.inl rfl) (pe_meth0 (pv 0) T.cl mE GE (hr.mono (by omega)) bE .nil (passes_call (takes_of rfl rfl rfl rfl) fun _ _ _ _ h => h)))
    (pss_cons (ps_expr (pe_meth (pv 0) T.cl m4 G4 (hr.mono (by omega)) b4 .nil (passes_call (takes_of rfl rfl rfl rfl) fun _ _ _ _ h => h) (pa_cons pe_str pa_nil)))
    (pss_one (ps_ret (pe_meth (pv 0) T.cl m3 G3 (hr.mono (by omega)) b3 .nil pass0 (pa_cons (pe_call G5 (hr.mono (by omega)) (by rfl) m5 k5 b5 .nil (passes_call (takes_of rfl rfl rfl rfl) fun _ _ _ _ h => h) (pa_cons pe_str (pa_cons (pe_lst (pa_cons (pv 3) (pa_cons (pe_meth0 (pv 0) T.cl mE GE (hr.mono (by omega)) bE .nil (passes_call (takes_of rfl rfl rfl rfl) fun _ _ _ _ h => h)) pa_nil))) (pa_cons (pe_tup (pa_cons (pv 1) pa_nil)) pa_nil)))) pa_nil)))))))) pss_nil)
    (pss_cons (ps_if (pt_val (pe_meth (pv 0) T.cl m2 G2 (hr.mono (by omega)) b2 .nil pass0 (pa_cons pe_str pa_nil))) (pss_cons (ps_set (i := 3) scExpr.nd rfl (Or.inl rfl) (pe_meth0 (pv 0) T.cl mA GA (hr.mono (by omega)) bA .nil (passes_call (takes_of rfl rfl rfl rfl) fun _ _ _ _ h => h)))
    (pss_cons (ps_expr (pe_meth (pv 0) T.cl m4 G4 (hr.mono (by omega)) b4 .nil (passes_call (takes_of rfl rfl rfl rfl) fun _ _ _ _ h => h) (pa_cons pe_str pa_nil)))
    (pss_one (ps_ret (pe_meth (pv 0) T.cl m3 G3 (hr.mono (by omega)) b3 .nil pass0 (pa_cons (pe_call G5 (hr.mono (by omega)) (by rfl) m5 k5 b5' hdE (passes_call (takes_of rfl rfl rfl rfl) fun _ _ _ _ h => h) (pa_cons pe_str (pa_cons (pe_lst (pa_cons (pv 3) (pa_cons (pe_meth0 (pv 0) T.cl mE GE (hr.mono (by omega)) bE .nil (passes_call (takes_of rfl rfl rfl rfl) fun _ _ _ _ h => h)) pa_nil))) pa_nil))) pa_nil)))))) pss_nil)
    (pss_cons (ps_if (pt_val (pe_meth (pv 0) T.cl m2 G2 (hr.mono (by omega)) b2 .nil pass0 (pa_cons pe_str pa_nil))) (pss_one (ps_ret (pe_meth (pv 0) T.cl m3 G3 (hr.mono (by omega)) b3 .nil pass0 (pa_cons (pe_meth0 (pv 0) T.cl mC GC (hr.mono (by omega)) bC .nil (passes_call (takes_of rfl rfl rfl rfl) fun _ _ _ _ h => h)) pa_nil)))) pss_nil)
    (pss_cons (ps_if (pt_val (pe_meth (pv 0) T.cl m2 G2 (hr.mono (by omega)) b2 .nil pass0 (pa_cons pe_str pa_nil))) (pss_one (ps_ret (pe_meth (pv 0) T.cl m3 G3 (hr.mono (by omega)) b3 .nil pass0 (pa_cons (pe_meth0 (pv 0) T.cl mD GD (hr.mono (by omega)) bD .nil (passes_call (takes_of rfl rfl rfl rfl) fun _ _ _ _ h => h)) pa_nil)))) pss_nil)
    (pss_one (ps_ret (pe_meth (pv 0) T.cl m3 G3 (hr.mono (by omega)) b3 .nil pass0 (pa_cons (pe_meth0 (pv 0) T.cl mB GB (hr.mono (by omega)) bB .nil (passes_call (takes_of rfl rfl rfl rfl) fun _ _ _ _ h => h)) pa_nil))))))))))), ?_⟩
  have d60 := hR.d60
  refine ⟨_, rfl, g_meth hR no_enter ?_⟩
  refine do_enter hR q fun d' e q H1 k1 R1 => ?_
  subst e
  refine ⟨_, rfl, g_meth R1 no_skips ?_⟩
  refine do_skips (H := H) z_fun R1 k1 (fun c H2 k2 R2 f2 => ⟨_, rfl, iteT ?_⟩) (fun c H2 k2 R2 f2 => ⟨_, rfl, iteF ?_⟩)
  · rw [if_pos c] at q
    refine ⟨_, rfl, g_meth R2 no_take ?_⟩
    refine do_take z_name R2 k2 q (fun q t ht H3 k3 R3 f3 => ?_)
    refine ⟨_, rfl, g_meth R3 no_skip ?_⟩
    refine do_skip z_sFat R3 k3 q (fun q H4 k4 R4 f4 => ?_)
    refine ⟨_, rfl, g_meth R4 no_leave ?_⟩
    refine ⟨_, rfl, g_meth R4 no_expr ?_⟩
    refine do_sub R4 k4 q (fun x q H5 q5 u5 k5 R5 h5 f5 => ?_)
    refine ⟨(by show 1 ≤ sizeLine; decide), fun l hl => ?_⟩
    refine ⟨_, rfl, (by show 1 ≤ sizeLine; decide), fun t1 ht1 => ?_⟩
    have s5 := (same_new hl (.lst [.ref q5])).trans (same_new ht1 (.tup [vV t]))
    refine do_built (H := H) (fx := fun x => .ok x) (as := [q5]) (vs0 := [u5]) (ns := [x.1]) (xs := [vV t]) (same_new ht1 _ _ _ upd_same) (SqT.of upd_same) (by simp) (by simp) (by simp) rfl rfl (p1 (s5 _ _ h5)) (R5.same s5) (k5.trans (.same s5)) rfl (by rw [bind_id]; exact q) (fun q H8 q8 u8 k8 R8 h8 f8 => ?_)
    refine do_leave (H := H) R8 k8 rfl d60 (fun H9 k9 R9 f9 => ?_)
    exact q H9 q8 u8 k9 R9 (f9 _ _ (tup_ne R8 h8) h8)
  rw [if_neg (by rw [c]; decide)] at q
  refine ⟨_, rfl, g_meth R2 no_skips ?_⟩
  refine do_skips (H := H) z_rec R2 k2 (fun c H2 k2 R2 f2 => ⟨_, rfl, iteT ?_⟩) (fun c H2 k2 R2 f2 => ⟨_, rfl, iteF ?_⟩)
  · rw [if_pos c] at q
    refine ⟨_, rfl, g_meth R2 no_take ?_⟩
    refine do_take z_name R2 k2 q (fun q t ht H3 k3 R3 f3 => ?_)
    refine ⟨_, rfl, g_meth R3 no_take ?_⟩
    refine do_take z_name R3 k3 q (fun q t' ht' H3' k3' R3' f3' => ?_)
    refine ⟨(by show 2 ≤ sizeLine; decide), fun t1 ht1 => ?_⟩
    have s3 := same_new ht1 (.tup [vV t, vV t'])
    have R3'' := R3'.same s3
    have k3'' := k3'.trans (.same s3)
    refine ⟨_, rfl, g_meth R3'' no_skip ?_⟩
    refine do_skip z_sFat R3'' k3'' q (fun q H4 k4 R4 f4 => ?_)
    refine ⟨_, rfl, g_meth R4 no_leave ?_⟩
    refine ⟨_, rfl, g_meth R4 no_expr ?_⟩
    refine do_sub R4 k4 q (fun x q H5 q5 u5 k5 R5 h5 f5 => ?_)
    refine ⟨(by show 1 ≤ sizeLine; decide), fun l hl => ⟨_, rfl, ?_⟩⟩
    have s5 := same_new hl (.lst [.ref q5])
    have g4 := f4 t1 _ (tup_ne R3'' upd_same) upd_same
    have g5 := s5 _ _ (f5 t1 _ (tup_ne R4 g4) g4)
    refine do_built (H := H) (fx := fun x => .ok x) (as := [q5]) (vs0 := [u5]) (ns := [x.1]) (xs := [vV t, vV t']) upd_same (SqT.of g5) (by simp) (by simp) (by simp) rfl rfl (p1 (s5 _ _ h5)) (R5.same s5) (k5.trans (.same s5)) rfl (by rw [bind_id]; exact q) (fun q H8 q8 u8 k8 R8 h8 f8 => ?_)
    refine do_leave (H := H) R8 k8 rfl d60 (fun H9 k9 R9 f9 => ?_)
    exact q H9 q8 u8 k9 R9 (f9 _ _ (tup_ne R8 h8) h8)
  rw [if_neg (by rw [c]; decide)] at q
  refine ⟨_, rfl, g_meth R2 no_skips ?_⟩
  refine do_skips (H := H) z_let R2 k2 (fun c H2 k2 R2 f2 => ⟨_, rfl, iteT ?_⟩) (fun c H2 k2 R2 f2 => ⟨_, rfl, iteF ?_⟩)
  · rw [if_pos c] at q
    refine ⟨_, rfl, g_meth R2 no_take ?_⟩
    refine do_take z_name R2 k2 q (fun q t ht H3 k3 R3 f3 => ?_)
    refine ⟨_, rfl, g_meth R3 no_skip ?_⟩
    refine do_skip z_sEq R3 k3 q (fun q H4 k4 R4 f4 => ?_)
    refine ⟨_, rfl, g_meth R4 no_expr ?_⟩
    refine do_sub R4 k4 q (fun x q H5 q5 u5 k5 R5 h5 f5 => ?_)
    refine ⟨_, rfl, g_meth R5 no_skip ?_⟩
    refine do_skip z_in R5 k5 q (fun q H6 k6 R6 f6 => ?_)
    refine ⟨_, rfl, g_meth R6 no_leave ?_⟩
    refine ⟨_, rfl, _, rfl, g_meth R6 no_expr ?_⟩
    refine do_sub R6 k6 q (fun y q H7 q7 u7 k7 R7 h7 f7 => ?_)
    refine ⟨(by show 2 ≤ sizeLine; decide), fun l hl => ?_⟩
    refine ⟨_, rfl, (by show 1 ≤ sizeLine; decide), fun t1 ht1 => ?_⟩
    have s5 := (same_new hl (.lst [.ref q5, .ref q7])).trans (same_new ht1 (.tup [vV t]))
    have e6 := f6 _ _ (tup_ne R5 h5) h5
    have e7 := s5 _ _ (f7 _ _ (tup_ne R6 e6) e6)
    refine do_built (H := H) (fx := fun x => .ok x) (as := [q5, q7]) (vs0 := [u5, u7]) (ns := [x.1, y.1]) (xs := [vV t]) (same_new ht1 _ _ _ upd_same) (SqT.of upd_same) (by simp) (by simp) (by simp) rfl rfl (p2 e7 (s5 _ _ h7)) (R7.same s5) (k7.trans (.same s5)) rfl (by rw [bind_id]; exact q) (fun q H8 q8 u8 k8 R8 h8 f8 => ?_)
    refine do_leave (H := H) R8 k8 rfl d60 (fun H9 k9 R9 f9 => ?_)
    exact q H9 q8 u8 k9 R9 (f9 _ _ (tup_ne R8 h8) h8)
  rw [if_neg (by rw [c]; decide)] at q
  refine ⟨_, rfl, g_meth R2 no_skips ?_⟩
  refine do_skips (H := H) z_print R2 k2 (fun c H2 k2 R2 f2 => ⟨_, rfl, iteT ?_⟩) (fun c H2 k2 R2 f2 => ⟨_, rfl, iteF ?_⟩)
  · rw [if_pos c] at q
    refine ⟨_, rfl, g_meth R2 no_add ?_⟩
    refine do_sub R2 k2 q (fun x q H5 q5 u5 k5 R5 h5 f5 => ?_)
    refine ⟨_, rfl, g_meth R5 no_skip ?_⟩
    refine do_skip z_sSem R5 k5 q (fun q H6 k6 R6 f6 => ?_)
    refine ⟨_, rfl, g_meth R6 no_leave ?_⟩
    refine ⟨_, rfl, _, rfl, g_meth R6 no_expr ?_⟩
    refine do_sub R6 k6 q (fun y q H7 q7 u7 k7 R7 h7 f7 => ?_)
    refine ⟨(by show 2 ≤ sizeLine; decide), fun l hl => ?_⟩
    have s5 := same_new hl (.lst [.ref q5, .ref q7])
    have e6 := f6 _ _ (tup_ne R5 h5) h5
    have e7 := s5 _ _ (f7 _ _ (tup_ne R6 e6) e6)
    refine do_built (H := H) (fx := fun x => .ok x) (as := [q5, q7]) (vs0 := [u5, u7]) (ns := [x.1, y.1]) (xs := []) upd_same (hE.sq _) (by simp) (by simp) (by simp) rfl rfl (p2 e7 (s5 _ _ h7)) (R7.same s5) (k7.trans (.same s5)) rfl (by rw [bind_id]; exact q) (fun q H8 q8 u8 k8 R8 h8 f8 => ?_)
    refine do_leave (H := H) R8 k8 rfl d60 (fun H9 k9 R9 f9 => ?_)
    exact q H9 q8 u8 k9 R9 (f9 _ _ (tup_ne R8 h8) h8)
  rw [if_neg (by rw [c]; decide)] at q
  refine ⟨_, rfl, g_meth R2 no_skips ?_⟩
  refine do_skips (H := H) z_if R2 k2 (fun c H2 k2 R2 f2 => ⟨_, rfl, iteT ?_⟩) (fun c H2 k2 R2 f2 => ⟨_, rfl, iteF ?_⟩)
  · rw [if_pos c] at q
    refine ⟨_, rfl, g_meth R2 no_leave ?_⟩
    refine ⟨_, rfl, g_meth R2 no_choice ?_⟩
    refine do_same R2 k2 q (fun x q H8 q8 u8 k8 R8 h8 f8 => ?_)
    refine do_leave (H := H) R8 k8 rfl d60 (fun H9 k9 R9 f9 => ?_)
    exact q H9 q8 u8 k9 R9 (f9 _ _ (tup_ne R8 h8) h8)
  rw [if_neg (by rw [c]; decide)] at q
  refine ⟨_, rfl, g_meth R2 no_skips ?_⟩
  refine do_skips (H := H) z_handle R2 k2 (fun c H2 k2 R2 f2 => ⟨_, rfl, iteT ?_⟩) (fun c H2 k2 R2 f2 => ⟨_, rfl, iteF ?_⟩)
  · rw [if_pos c] at q
    refine ⟨_, rfl, g_meth R2 no_leave ?_⟩
    refine ⟨_, rfl, g_meth R2 no_handler ?_⟩
    refine do_same R2 k2 q (fun x q H8 q8 u8 k8 R8 h8 f8 => ?_)
    refine do_leave (H := H) R8 k8 rfl d60 (fun H9 k9 R9 f9 => ?_)
    exact q H9 q8 u8 k9 R9 (f9 _ _ (tup_ne R8 h8) h8)
  rw [if_neg (by rw [c]; decide)] at q
  refine ⟨_, rfl, g_meth R2 no_leave ?_⟩
  refine ⟨_, rfl, g_meth R2 no_cmp ?_⟩
  refine do_same R2 k2 q (fun x q H8 q8 u8 k8 R8 h8 f8 => ?_)
  refine do_leave (H := H) R8 k8 rfl d60 (fun H9 k9 R9 f9 => ?_)
  exact q H9 q8 u8 k9 R9 (f9 _ _ (tup_ne R8 h8) h8)
end
end Af

/-! W7: the loops. -/
namespace Af
open PySem PySem.Spec PyProof.Rows L2 Afd
section
variable {P : Program} {w : World} {K : PySem.W.Frag} {mg : Str → Option Value} {base : Heap} {C : Addr} {TE : ETx P K mg}
/-- a loop that goes on with what it read: m is the fuel that is left -/
def LInv (TE : ETx P K mg) (C : Addr) (R : RS) (H : Hp) (d d0 : Nat) (Q : VK) (E : XK) (gb : Nat) (nt : Nat → NT) (Sg : Addr → L2.St → Prop) (m : Nat) (σ' : L2.St) (H' : Hp) : Prop :=
  ∃ n q1 u1 r', Sg q1 σ' ∧ m ≤ gb ∧ Kp R.p H H' ∧ RdAt C H' R r' d ∧ H' q1 = some (.tup [u1, .int ((n : Nat) : Int)]) ∧ PostR TE C R d0 H (Afd.P R.sz m (nt n) d r') Q E
theorem fuel_pos2 {H : Hp} {R : RS} {r : List Tk} {d d0 : Nat} {Q : VK} {E : XK} {nt : NT} {g : Nat} (h : PostR TE C R d0 H (Afd.P R.sz g nt d r) Q E) : ∃ g0, g = g0 + 1 := by
  cases g with
  | zero => exact h.elim
  | succ g => exact ⟨g, rfl⟩
theorem sign_of {H : Hp} {R : RS} {r : List Tk} {d : Nat} {v : Cs} (hR : RdAt C H R r d) (h : sees v r = true) (hv : words.contains v = false) : isK .sign r = true := by
  obtain ⟨t, r', rfl⟩ := sees_cons h
  have hm : t ∈ R.ts := hR.suf.subset List.mem_cons_self
  rw [sees_head] at h
  simp only [Bool.and_eq_true, Bool.or_eq_true, decide_eq_true_eq] at h
  obtain ⟨h1, rfl⟩ := h
  rcases h1 with h1 | h1
  · rw [hR.tok.wf t hm h1] at hv
    cases hv
  · exact decide_eq_true h1
theorem do_sign {H H1 : Hp} {R : RS} {r : List Tk} {d : Nat} {Q1 : VK} {E : XK} {z : Str} (hz : z = kS .sign) (hR : RdAt C H1 R r d) (k : Kp R.p H H1) (c : isK .sign r = true) (hok : ∀ t H', Kp R.p H H' → RdAt C H' R r.tail d → (∀ b o, b ≠ R.p → H1 b = some o → H' b = some o) → Q1 (vV t) H') : spTake TE C [.ref R.p, .str z] H1 Q1 E := by
  subst hz
  exact ⟨R, r, d, .sign, rfl, hR, fun _ H' t _ k' R' => hok t H' (k.trans k') R' k', fun c' => by rw [c] at c'; cases c'⟩
theorem do_beg {H H1 : Hp} {R : RS} {r : List Tk} {d : Nat} {Q1 : VK} {E : XK} (hR : RdAt C H1 R r d) (k : Kp R.p H H1) (hok : ∀ H', Kp R.p H H' → RdAt C H' R r d → (∀ b o, b ≠ R.p → H1 b = some o → H' b = some o) → Q1 (.bl (begA r)) H') : spBeg C [.ref R.p] H1 Q1 E :=
  ⟨R, r, d, rfl, hR, fun H' k' R' => hok H' (k.trans k') R' k'⟩
theorem scAdd : FnScope ["self", "left", "sign"] ["self"] (defScope (meS 14)) := ⟨rfl, rfl, rfl, by decide +kernel, rfl, by decide +kernel, by decide +kernel⟩
theorem ok_add (M : Small P w K mg base C TE) (F : MTx K C 14 "addition" "Reader.addition" ["self"]) {g : Nat} (NM : NOk P w K mg base C TE "multiplication" .mul g) : NOk P w K mg base C TE "addition" .add (g + 1) := by
  obtain ⟨f, fd, m, b, F⟩ := F
  obtain ⟨f1, fd1, m1, b1, G1⟩ := M.enter
  obtain ⟨f2, fd2, m2, b2, G2⟩ := M.skips
  obtain ⟨f3, fd3, m3, b3, G3⟩ := M.leave
  obtain ⟨f4, fd4, m4, b4, G4⟩ := M.skip
  obtain ⟨f5, fd5, aE, m5, k5, hE, b5, b5', G5⟩ := M.built
  obtain ⟨f6, fd6, m6, b6, G6⟩ := M.take
  obtain ⟨f7, fd7, m7, b7, G7⟩ := M.sees
  obtain ⟨f8, fd8, m8, b8, G8⟩ := M.beg
  obtain ⟨f9, fd9, m9, b9, G9⟩ := M.fail
  obtain ⟨f0, fd0, m0, k0, b0, G0⟩ := M.lim
  obtain ⟨fM, fdM, mM, bM, GM⟩ := NM
  have T := M.T
  have hdE : Vals [V.ref aE] [Value.ref aE] := .cons rfl .nil
  refine ⟨f, fd, m, b, F.okX scAdd (fun vs H Q E h => ?_) (fun cdv A outer s H vs Q E hr h => ?_)⟩
  · obtain ⟨R, r, d, gg, rfl, _⟩ := h
    rfl
  obtain ⟨R, r, d, gg, rfl, hg, hR, q⟩ := h
  obtain ⟨g0, rfl⟩ := fuel_pos q
  refine ⟨_, (pss_cons (ps_set (i := 1) scAdd.nd rfl (Or.inl rfl) (pe_meth0 (pv 0) T.cl mM GM (hr.mono (by omega)) bM .nil (passes_call (takes_of rfl rfl rfl rfl) fun _ _ _ _ h => h)))
    (pss_cons (ps_while (passes_of rfl) (PW.pt (pw_or (pt_val (pe_meth (pv 0) T.cl m7 G7 (hr.mono (by omega)) b7 .nil pass0 (pa_cons pe_str pa_nil))) (pw_or1 (pt_val (pe_meth (pv 0) T.cl m7 G7 (hr.mono (by omega)) b7 .nil pass0 (pa_cons pe_str pa_nil)))))) (pss_cons (ps_set (i := 2) scAdd.nd rfl (Or.inl rfl) (pe_meth (pv 0) T.cl m6 G6 (hr.mono (by omega)) b6 .nil (passes_call (takes_of rfl rfl rfl rfl) fun _ _ _ _ h => h) (pa_cons pe_str pa_nil)))
    (pss_one (ps_set (i := 1) scAdd.nd rfl (Or.inl rfl) (pe_call G5 (hr.mono (by omega)) (by rfl) m5 k5 b5 .nil (passes_call (takes_of rfl rfl rfl rfl) fun _ _ _ _ h => h) (pa_cons pe_str (pa_cons (pe_lst (pa_cons (pv 1) (pa_cons (pe_meth0 (pv 0) T.cl mM GM (hr.mono (by omega)) bM .nil (passes_call (takes_of rfl rfl rfl rfl) fun _ _ _ _ h => h)) pa_nil))) (pa_cons (pe_tup (pa_cons (pv 2) pa_nil)) pa_nil))))))))
    (pss_one (ps_ret (pv 1))))), ?_⟩
  have k0 := Kp.refl R.p H
  refine ⟨_, rfl, g_meth hR no_mul ?_⟩
  refine do_sub hR k0 q (fun x q H1 q1 u1 k1 R1 h1 f1 => ?_)
  refine ⟨LInv TE C R H d d Q E g0 .addL fun q1 σ' => ∃ o, σ' = [some (.ref R.p), some (.ref q1), o], ⟨g0, x.1, q1, u1, x.2, ⟨none, rfl⟩, Nat.le_refl _, k1, R1, h1, q⟩, ?_⟩
  clear q h1 R1 k1 q1 u1 H1 f1 x
  rintro mm σ' H2 ⟨n, q2, u2, r', ⟨o, rfl⟩, hm, k2, R2, h2, q⟩
  obtain ⟨m0, rfl⟩ := fuel_pos q
  refine ⟨_, rfl, g_meth R2 no_sees ?_⟩
  refine do_sees (H := H) z_sPls R2 k2 (fun H3 k3 R3 f3 => ⟨_, rfl, ?_⟩)
  have e3 := f3 _ _ (tup_ne R2 h2) h2
  simp only [Afd.P] at q
  rcases bool_cases (sees sPls r') with c | c
  · refine if_t c (iteT ?_)
    have cc : (sees sPls r' || sees sMin r') = true := by rw [c]; rfl
    rw [if_pos cc] at q
    have ck := sign_of R3 c (by decide +kernel)
    refine ⟨fun σ' H' => ∃ m', m' < m0 + 1 ∧ LInv TE C R H d d Q E g0 .addL (fun q1 σ' => ∃ o, σ' = [some (.ref R.p), some (.ref q1), o]) m' σ' H', fun _ _ h => h, ?_⟩
    refine ⟨_, rfl, g_meth R3 no_take ?_⟩
    refine do_sign (H := H) rfl R3 k3 ck (fun t H4 k4 R4 f4 => ?_)
    have e4 := f4 _ _ (tup_ne R3 e3) e3
    refine ⟨_, rfl, _, rfl, g_meth R4 no_mul ?_⟩
    refine do_sub R4 k4 q (fun y q H5 q5 u5 k5 R5 h5 f5 => ?_)
    refine ⟨(by show 2 ≤ sizeLine; decide), fun l hl => ?_⟩
    refine ⟨_, rfl, (by show 1 ≤ sizeLine; decide), fun t1 ht1 => ?_⟩
    have s5 := (same_new hl (.lst [.ref q2, .ref q5])).trans (same_new ht1 (.tup [vV t]))
    have e5 := s5 _ _ (f5 _ _ (tup_ne R4 e4) e4)
    refine do_built (H := H) (as := [q2, q5]) (vs0 := [u2, u5]) (ns := [n, y.1]) (xs := [vV t]) (same_new ht1 _ _ _ upd_same) (SqT.of upd_same) (by simp) (by simp) (by simp) rfl rfl (p2 e5 (s5 _ _ h5)) (R5.same s5) (k5.trans (.same s5)) rfl q (fun q H8 q8 u8 k8 R8 h8 f8 => ?_)
    exact ⟨m0, Nat.lt_succ_self _, _, q8, u8, _, ⟨_, rfl⟩, by omega, k8, R8, h8, q⟩
  · refine if_f c ?_
    refine ⟨_, rfl, g_meth R3 no_sees ?_⟩
    refine do_sees (H := H) z_sMin R3 k3 (fun H4 k4 R4 f4 => ⟨_, rfl, ?_⟩)
    have e4 := f4 _ _ (tup_ne R3 e3) e3
    clear e3 f3 k3 R3
    have e3 := e4
    have k3 := k4
    have R3 := R4
    clear e4 f4 k4 R4
    rcases bool_cases (sees sMin r') with c' | c'
    · refine if_t c' ?_
      have cc : (sees sPls r' || sees sMin r') = true := by rw [c', Bool.or_true]
      rw [if_pos cc] at q
      have ck := sign_of R3 c' (by decide +kernel)
      refine ⟨fun σ' H' => ∃ m', m' < m0 + 1 ∧ LInv TE C R H d d Q E g0 .addL (fun q1 σ' => ∃ o, σ' = [some (.ref R.p), some (.ref q1), o]) m' σ' H', fun _ _ h => h, ?_⟩
      refine ⟨_, rfl, g_meth R3 no_take ?_⟩
      refine do_sign (H := H) rfl R3 k3 ck (fun t H4 k4 R4 f4 => ?_)
      have e4 := f4 _ _ (tup_ne R3 e3) e3
      refine ⟨_, rfl, _, rfl, g_meth R4 no_mul ?_⟩
      refine do_sub R4 k4 q (fun y q H5 q5 u5 k5 R5 h5 f5 => ?_)
      refine ⟨(by show 2 ≤ sizeLine; decide), fun l hl => ?_⟩
      refine ⟨_, rfl, (by show 1 ≤ sizeLine; decide), fun t1 ht1 => ?_⟩
      have s5 := (same_new hl (.lst [.ref q2, .ref q5])).trans (same_new ht1 (.tup [vV t]))
      have e5 := s5 _ _ (f5 _ _ (tup_ne R4 e4) e4)
      refine do_built (H := H) (as := [q2, q5]) (vs0 := [u2, u5]) (ns := [n, y.1]) (xs := [vV t]) (same_new ht1 _ _ _ upd_same) (SqT.of upd_same) (by simp) (by simp) (by simp) rfl rfl (p2 e5 (s5 _ _ h5)) (R5.same s5) (k5.trans (.same s5)) rfl q (fun q H8 q8 u8 k8 R8 h8 f8 => ?_)
      exact ⟨m0, Nat.lt_succ_self _, _, q8, u8, _, ⟨_, rfl⟩, by omega, k8, R8, h8, q⟩
    · refine if_f c' ?_
      rw [if_neg (by rw [c, c']; decide)] at q
      exact ⟨_, rfl, q _ q2 u2 k3 R3 e3⟩
theorem scMul : FnScope ["self", "left"] ["self"] (defScope (meS 15)) := ⟨rfl, rfl, rfl, by decide +kernel, rfl, by decide +kernel, by decide +kernel⟩
theorem ok_mul (M : Small P w K mg base C TE) (F : MTx K C 15 "multiplication" "Reader.multiplication" ["self"]) {g : Nat} (NP : NOk P w K mg base C TE "prefix" .pre g) : NOk P w K mg base C TE "multiplication" .mul (g + 1) := by
  obtain ⟨f, fd, m, b, F⟩ := F
  obtain ⟨f1, fd1, m1, b1, G1⟩ := M.enter
  obtain ⟨f2, fd2, m2, b2, G2⟩ := M.skips
  obtain ⟨f3, fd3, m3, b3, G3⟩ := M.leave
  obtain ⟨f4, fd4, m4, b4, G4⟩ := M.skip
  obtain ⟨f5, fd5, aE, m5, k5, hE, b5, b5', G5⟩ := M.built
  obtain ⟨f6, fd6, m6, b6, G6⟩ := M.take
  obtain ⟨f7, fd7, m7, b7, G7⟩ := M.sees
  obtain ⟨f8, fd8, m8, b8, G8⟩ := M.beg
  obtain ⟨f9, fd9, m9, b9, G9⟩ := M.fail
  obtain ⟨f0, fd0, m0, k0, b0, G0⟩ := M.lim
  obtain ⟨fP, fdP, mP, bP, GP⟩ := NP
  have T := M.T
  have hdE : Vals [V.ref aE] [Value.ref aE] := .cons rfl .nil
  refine ⟨f, fd, m, b, F.okX scMul (fun vs H Q E h => ?_) (fun cdv A outer s H vs Q E hr h => ?_)⟩
  · obtain ⟨R, r, d, gg, rfl, _⟩ := h
    rfl
  obtain ⟨R, r, d, gg, rfl, hg, hR, q⟩ := h
  obtain ⟨g0, rfl⟩ := fuel_pos q
  refine ⟨_, (pss_cons (ps_set (i := 1) scMul.nd rfl (Or.inl rfl) (pe_meth0 (pv 0) T.cl mP GP (hr.mono (by omega)) bP .nil (passes_call (takes_of rfl rfl rfl rfl) fun _ _ _ _ h => h)))
    (pss_cons (ps_while (passes_of rfl) (pt_val (pe_meth (pv 0) T.cl m2 G2 (hr.mono (by omega)) b2 .nil pass0 (pa_cons pe_str pa_nil))) (pss_one (ps_set (i := 1) scMul.nd rfl (Or.inl rfl) (pe_call G5 (hr.mono (by omega)) (by rfl) m5 k5 b5 .nil (passes_call (takes_of rfl rfl rfl rfl) fun _ _ _ _ h => h) (pa_cons pe_str (pa_cons (pe_lst (pa_cons (pv 1) (pa_cons (pe_meth0 (pv 0) T.cl mP GP (hr.mono (by omega)) bP .nil (passes_call (takes_of rfl rfl rfl rfl) fun _ _ _ _ h => h)) pa_nil))) (pa_cons (pe_tup (pa_cons pe_str pa_nil)) pa_nil)))))))
    (pss_one (ps_ret (pv 1))))), ?_⟩
  have k0 := Kp.refl R.p H
  refine ⟨_, rfl, g_meth hR no_pre ?_⟩
  refine do_sub hR k0 q (fun x q H1 q1 u1 k1 R1 h1 f1 => ?_)
  refine ⟨LInv TE C R H d d Q E g0 .mulL fun q1 σ' => σ' = [some (.ref R.p), some (.ref q1)], ⟨g0, x.1, q1, u1, x.2, rfl, Nat.le_refl _, k1, R1, h1, q⟩, ?_⟩
  clear q h1 R1 k1 q1 u1 H1 f1 x
  rintro mm σ' H2 ⟨n, q2, u2, r', rfl, hm, k2, R2, h2, q⟩
  obtain ⟨m0, rfl⟩ := fuel_pos2 q
  refine ⟨_, rfl, g_meth R2 no_skips ?_⟩
  simp only [Afd.P] at q
  refine do_skips (H := H) z_sStr R2 k2 (fun c H3 k3 R3 f3 => ⟨_, rfl, iteT ?_⟩) (fun c H3 k3 R3 f3 => ⟨_, rfl, iteF ?_⟩)
  · rw [if_pos c] at q
    have e3 := f3 _ _ (tup_ne R2 h2) h2
    refine ⟨fun σ' H' => ∃ m', m' < m0 + 1 ∧ LInv TE C R H d d Q E g0 .mulL (fun q1 σ' => σ' = [some (.ref R.p), some (.ref q1)]) m' σ' H', fun _ _ h => h, ?_⟩
    refine ⟨_, rfl, _, rfl, g_meth R3 no_pre ?_⟩
    refine do_sub R3 k3 q (fun y q H5 q5 u5 k5 R5 h5 f5 => ?_)
    refine ⟨(by show 2 ≤ sizeLine; decide), fun l hl => ?_⟩
    refine ⟨(by show 1 ≤ sizeLine; decide), fun t1 ht1 => ?_⟩
    have s5 := (same_new hl (.lst [.ref q2, .ref q5])).trans (same_new ht1 (.tup [.str "*"]))
    have e5 := s5 _ _ (f5 _ _ (tup_ne R3 e3) e3)
    refine do_built (H := H) (as := [q2, q5]) (vs0 := [u2, u5]) (ns := [n, y.1]) (xs := [.str "*"]) (same_new ht1 _ _ _ upd_same) (SqT.of upd_same) (by simp) (by simp) (by simp) rfl rfl (p2 e5 (s5 _ _ h5)) (R5.same s5) (k5.trans (.same s5)) rfl q (fun q H8 q8 u8 k8 R8 h8 f8 => ?_)
    exact ⟨m0, Nat.lt_succ_self _, _, q8, u8, _, rfl, by omega, k8, R8, h8, q⟩
  · rw [if_neg (by rw [c]; decide)] at q
    exact ⟨_, rfl, q _ q2 u2 k3 R3 (f3 _ _ (tup_ne R2 h2) h2)⟩
theorem scPre : FnScope ["self", "word", "name", "left"] ["self"] (defScope (meS 16)) := ⟨rfl, rfl, rfl, by decide +kernel, rfl, by decide +kernel, by decide +kernel⟩
theorem ok_pre (M : Small P w K mg base C TE) (F : MTx K C 16 "prefix" "Reader.prefix" ["self"]) {g : Nat} (NP : NOk P w K mg base C TE "prefix" .pre g) (NA : NOk P w K mg base C TE "atom" .atom g) : NOk P w K mg base C TE "prefix" .pre (g + 1) := by
  obtain ⟨f, fd, m, b, F⟩ := F
  obtain ⟨f1, fd1, m1, b1, G1⟩ := M.enter
  obtain ⟨f2, fd2, m2, b2, G2⟩ := M.skips
  obtain ⟨f3, fd3, m3, b3, G3⟩ := M.leave
  obtain ⟨f4, fd4, m4, b4, G4⟩ := M.skip
  obtain ⟨f5, fd5, aE, m5, k5, hE, b5, b5', G5⟩ := M.built
  obtain ⟨f6, fd6, m6, b6, G6⟩ := M.take
  obtain ⟨f7, fd7, m7, b7, G7⟩ := M.sees
  obtain ⟨f8, fd8, m8, b8, G8⟩ := M.beg
  obtain ⟨f9, fd9, m9, b9, G9⟩ := M.fail
  obtain ⟨f0, fd0, m0, k0, b0, G0⟩ := M.lim
  obtain ⟨fP, fdP, mP, bP, GP⟩ := NP
  obtain ⟨fA, fdA, mA, bA, GA⟩ := NA
  have T := M.T
  have hdE : Vals [V.ref aE] [Value.ref aE] := .cons rfl .nil
  refine ⟨f, fd, m, b, F.okX scPre (fun vs H Q E h => ?_) (fun cdv A outer s H vs Q E hr h => ?_)⟩
  · obtain ⟨R, r, d, gg, rfl, _⟩ := h
    rfl
  obtain ⟨R, r, d, gg, rfl, hg, hR, q⟩ := h
  obtain ⟨g0, rfl⟩ := fuel_pos q
  refine ⟨_, (pss_cons (ps_expr (pe_meth0 (pv 0) T.cl m1 G1 (hr.mono (by omega)) b1 .nil (passes_call (takes_of rfl rfl rfl rfl) fun _ _ _ _ h => h)))
    (pss_cons (ps_for (passes_of rfl) rfl (pi_tup (pe_tup (pa_cons pe_str (pa_cons pe_str (pa_cons pe_str pa_nil))))) (pg_name (i := 1) scPre.nd rfl (Or.inl rfl)) (pss_one (ps_if (pt_val (pe_meth (pv 0) T.cl m2 G2 (hr.mono (by omega)) b2 .nil pass0 (pa_cons (pv 1) pa_nil))) (pss_one (ps_ret (pe_meth (pv 0) T.cl m3 G3 (hr.mono (by omega)) b3 .nil pass0 (pa_cons (pe_call G5 (hr.mono (by omega)) (by rfl) m5 k5 b5' hdE (passes_call (takes_of rfl rfl rfl rfl) fun _ _ _ _ h => h) (pa_cons (pv 1) (pa_cons (pe_lst (pa_cons (pe_meth0 (pv 0) T.cl mP GP (hr.mono (by omega)) bP .nil (passes_call (takes_of rfl rfl rfl rfl) fun _ _ _ _ h => h)) pa_nil)) pa_nil))) pa_nil)))) pss_nil)))
    (pss_cons (ps_if (pt_val (pe_meth (pv 0) T.cl m2 G2 (hr.mono (by omega)) b2 .nil pass0 (pa_cons pe_str pa_nil))) (pss_cons (ps_set (i := 2) scPre.nd rfl (Or.inl rfl) (pe_meth (pv 0) T.cl m6 G6 (hr.mono (by omega)) b6 .nil (passes_call (takes_of rfl rfl rfl rfl) fun _ _ _ _ h => h) (pa_cons pe_str pa_nil)))
    (pss_one (ps_ret (pe_meth (pv 0) T.cl m3 G3 (hr.mono (by omega)) b3 .nil pass0 (pa_cons (pe_call G5 (hr.mono (by omega)) (by rfl) m5 k5 b5 .nil (passes_call (takes_of rfl rfl rfl rfl) fun _ _ _ _ h => h) (pa_cons pe_str (pa_cons (pe_lst (pa_cons (pe_meth0 (pv 0) T.cl mP GP (hr.mono (by omega)) bP .nil (passes_call (takes_of rfl rfl rfl rfl) fun _ _ _ _ h => h)) pa_nil)) (pa_cons (pe_tup (pa_cons (pv 2) pa_nil)) pa_nil)))) pa_nil))))) pss_nil)
    (pss_cons (ps_set (i := 3) scPre.nd rfl (Or.inl rfl) (pe_meth0 (pv 0) T.cl mA GA (hr.mono (by omega)) bA .nil (passes_call (takes_of rfl rfl rfl rfl) fun _ _ _ _ h => h)))
    (pss_cons (ps_while (passes_of rfl) (pt_val (pe_meth0 (pv 0) T.cl m8 G8 (hr.mono (by omega)) b8 .nil pass0)) (pss_one (ps_set (i := 3) scPre.nd rfl (Or.inl rfl) (pe_call G5 (hr.mono (by omega)) (by rfl) m5 k5 b5' hdE (passes_call (takes_of rfl rfl rfl rfl) fun _ _ _ _ h => h) (pa_cons pe_str (pa_cons (pe_lst (pa_cons (pv 3) (pa_cons (pe_meth0 (pv 0) T.cl mA GA (hr.mono (by omega)) bA .nil (passes_call (takes_of rfl rfl rfl rfl) fun _ _ _ _ h => h)) pa_nil))) pa_nil))))))
    (pss_one (ps_ret (pe_meth (pv 0) T.cl m3 G3 (hr.mono (by omega)) b3 .nil pass0 (pa_cons (pv 3) pa_nil))))))))), ?_⟩
  have d60 := hR.d60
  refine ⟨_, rfl, g_meth hR no_enter ?_⟩
  refine do_enter hR q fun dd e q H1 k1 R1 => ?_
  subst e
  refine ⟨(by show 3 ≤ sizeLine; decide), fun p hp => ⟨p, rfl, ⟨_, SqT.of upd_same⟩, for_tup (K := K) (a := p) (xs := [.str "fst", .str "snd", .str "not"])
    (fun i σ' H' => (∃ o, σ' = [some (.ref R.p), o, none, none]) ∧ Kp R.p H H' ∧ RdAt C H' R r dd ∧ H' p = some (.tup [.str "fst", .str "snd", .str "not"]) ∧ ∀ w ∈ [wFst, wSnd, wNot].take i, sees w r = false)
    ⟨⟨none, rfl⟩, k1.trans (.new hp _), R1.same (same_new hp _), upd_same, by simp⟩ (fun i σ' H' _ h => SqT.of h.2.2.2.1) ?_ ?_⟩⟩
  · rintro i x σ' H' hx ⟨⟨o, rfl⟩, k2, R2, hp2, hno⟩
    obtain ⟨wd, hw, rfl⟩ : ∃ wd, [wFst, wSnd, wNot][i]? = some wd ∧ x = .str (S wd) := by
      match i, hx with
      | 0, hx => exact ⟨wFst, rfl, by rw [← Option.some.inj hx, z_fst]⟩
      | 1, hx => exact ⟨wSnd, rfl, by rw [← Option.some.inj hx, z_snd]⟩
      | 2, hx => exact ⟨wNot, rfl, by rw [← Option.some.inj hx, z_not]⟩
      | i + 3, hx => simp at hx
    refine ⟨_, rfl, g_meth R2 no_skips ?_⟩
    refine ⟨_, rfl, ?_⟩
    refine do_skips (H := H) rfl R2 k2 (fun c H3 k3 R3 f3 => ⟨_, rfl, iteT ?_⟩) (fun c H3 k3 R3 f3 => ⟨_, rfl, iteF ?_⟩)
    · have hs : (sees wFst r || sees wSnd r || sees wNot r) = true := by
        match i, hw with
        | 0, hw => rw [Option.some.inj hw, c]; rfl
        | 1, hw => rw [Option.some.inj hw, c, Bool.or_true]; rfl
        | 2, hw => rw [Option.some.inj hw, c, Bool.or_true]
        | i + 3, hw => simp at hw
      rw [if_pos hs] at q
      refine ⟨_, rfl, g_meth R3 no_leave ?_⟩
      refine ⟨_, rfl, ?_⟩
      refine ⟨_, rfl, g_meth R3 no_pre ?_⟩
      refine do_sub R3 k3 q (fun y q H5 q5 u5 k5 R5 h5 f5 => ?_)
      refine ⟨(by show 1 ≤ sizeLine; decide), fun l hl => ?_⟩
      have s5 := same_new hl (.lst [.ref q5])
      refine do_built (H := H) (fx := fun x => .ok x) (as := [q5]) (vs0 := [u5]) (ns := [y.1]) (xs := []) upd_same (hE.sq _) (by simp) (by simp) (by simp) rfl rfl (p1 (s5 _ _ h5)) (R5.same s5) (k5.trans (.same s5)) rfl (by rw [bind_id]; exact q) (fun q H8 q8 u8 k8 R8 h8 f8 => ?_)
      refine do_leave (H := H) R8 k8 rfl d60 (fun H9 k9 R9 f9 => ?_)
      exact q H9 q8 u8 k9 R9 (f9 _ _ (tup_ne R8 h8) h8)
    · refine ⟨⟨_, rfl⟩, k3, R3, f3 p _ (tup_ne R2 hp2) hp2, fun w' hw' => ?_⟩
      rw [List.take_succ, hw] at hw'
      rcases List.mem_append.mp hw' with z | z
      · exact hno w' z
      · obtain rfl : w' = wd := by simpa using z
        exact c
  rintro σ' H2 ⟨⟨o, rfl⟩, k2, R2, _, hno⟩
  have hs : (sees wFst r || sees wSnd r || sees wNot r) = false := by
    rw [hno wFst (by decide), hno wSnd (by decide), hno wNot (by decide)]
    rfl
  rw [if_neg (by rw [hs]; decide)] at q
  clear hs hno
  refine ⟨_, rfl, g_meth R2 no_skips ?_⟩
  refine do_skips (H := H) z_ask R2 k2 (fun c H2 k2 R2 f2 => ⟨_, rfl, iteT ?_⟩) (fun c H2 k2 R2 f2 => ⟨_, rfl, iteF ?_⟩)
  · rw [if_pos c] at q
    refine ⟨_, rfl, g_meth R2 no_take ?_⟩
    refine do_take z_name R2 k2 q (fun q t ht H3 k3 R3 f3 => ?_)
    refine ⟨_, rfl, g_meth R3 no_leave ?_⟩
    refine ⟨_, rfl, g_meth R3 no_pre ?_⟩
    refine do_sub R3 k3 q (fun x q H5 q5 u5 k5 R5 h5 f5 => ?_)
    refine ⟨(by show 1 ≤ sizeLine; decide), fun l hl => ?_⟩
    refine ⟨_, rfl, (by show 1 ≤ sizeLine; decide), fun t1 ht1 => ?_⟩
    have s5 := (same_new hl (.lst [.ref q5])).trans (same_new ht1 (.tup [vV t]))
    refine do_built (H := H) (fx := fun x => .ok x) (as := [q5]) (vs0 := [u5]) (ns := [x.1]) (xs := [vV t]) (same_new ht1 _ _ _ upd_same) (SqT.of upd_same) (by simp) (by simp) (by simp) rfl rfl (p1 (s5 _ _ h5)) (R5.same s5) (k5.trans (.same s5)) rfl (by rw [bind_id]; exact q) (fun q H8 q8 u8 k8 R8 h8 f8 => ?_)
    refine do_leave (H := H) R8 k8 rfl d60 (fun H9 k9 R9 f9 => ?_)
    exact q H9 q8 u8 k9 R9 (f9 _ _ (tup_ne R8 h8) h8)
  rw [if_neg (by rw [c]; decide)] at q
  refine ⟨_, rfl, g_meth R2 no_atom ?_⟩
  refine do_sub R2 k2 q (fun x q H1 q1 u1 k1 R1 h1 f1 => ?_)
  refine ⟨LInv TE C R H dd (dd + 1) Q E g0 .preL fun q1 σ' => ∃ o, σ' = [some (.ref R.p), o, none, some (.ref q1)], ⟨g0, x.1, q1, u1, x.2, ⟨_, rfl⟩, Nat.le_refl _, k1, R1, h1, q⟩, ?_⟩
  clear q h1 R1 k1 q1 u1 H1 f1 x
  rintro mm σ' H2 ⟨n, q2, u2, r', ⟨o, rfl⟩, hm, k2, R2, h2, q⟩
  obtain ⟨m0, rfl⟩ := fuel_pos2 q
  refine ⟨_, rfl, g_meth R2 no_beg ?_⟩
  simp only [Afd.P] at q
  refine do_beg (H := H) R2 k2 (fun H3 k3 R3 f3 => ⟨_, rfl, ?_⟩)
  have e3 := f3 _ _ (tup_ne R2 h2) h2
  rcases bool_cases (begA r') with c | c
  · refine if_t c ?_
    rw [if_pos c] at q
    refine ⟨fun σ' H' => ∃ m', m' < m0 + 1 ∧ LInv TE C R H dd (dd + 1) Q E g0 .preL (fun q1 σ' => ∃ o, σ' = [some (.ref R.p), o, none, some (.ref q1)]) m' σ' H', fun _ _ h => h, ?_⟩
    refine ⟨_, rfl, _, rfl, g_meth R3 no_atom ?_⟩
    refine do_sub R3 k3 q (fun y q H5 q5 u5 k5 R5 h5 f5 => ?_)
    refine ⟨(by show 2 ≤ sizeLine; decide), fun l hl => ?_⟩
    have s5 := same_new hl (.lst [.ref q2, .ref q5])
    have e5 := s5 _ _ (f5 _ _ (tup_ne R3 e3) e3)
    refine do_built (H := H) (as := [q2, q5]) (vs0 := [u2, u5]) (ns := [n, y.1]) (xs := []) upd_same (hE.sq _) (by simp) (by simp) (by simp) rfl rfl (p2 e5 (s5 _ _ h5)) (R5.same s5) (k5.trans (.same s5)) rfl q (fun q H8 q8 u8 k8 R8 h8 f8 => ?_)
    exact ⟨m0, Nat.lt_succ_self _, _, q8, u8, _, ⟨_, rfl⟩, by omega, k8, R8, h8, q⟩
  · refine if_f c ?_
    rw [if_neg (by rw [c]; decide)] at q
    refine ⟨_, rfl, g_meth R3 no_leave ?_⟩
    refine ⟨_, rfl, ?_⟩
    refine do_leave (H := H) R3 k3 rfl d60 (fun H9 k9 R9 f9 => ?_)
    exact q H9 q2 u2 k9 R9 (f9 _ _ (tup_ne R3 e3) e3)
end
end Af

/-! W8: atom, handler. -/
namespace Af
open PySem PySem.Spec PyProof.Rows L2 Afd
section
variable {P : Program} {w : World} {K : PySem.W.Frag} {mg : Str → Option Value} {base : Heap} {C : Addr} {TE : ETx P K mg}
theorem scAtom : FnScope ["self", "kind", "value", "at", "first"] ["self"] (defScope (meS 18)) := ⟨rfl, rfl, rfl, by decide +kernel, rfl, by decide +kernel, by decide +kernel⟩
theorem ok_atom (M : Small P w K mg base C TE) (F : MTx K C 18 "atom" "Reader.atom" ["self"]) {g : Nat} (c : CTx K w mg) (NE : NOk P w K mg base C TE "expression" .expr g) : NOk P w K mg base C TE "atom" .atom (g + 1) := by
  obtain ⟨f, fd, m, b, F⟩ := F
  obtain ⟨f1, fd1, m1, b1, G1⟩ := M.enter
  obtain ⟨f2, fd2, m2, b2, G2⟩ := M.skips
  obtain ⟨f3, fd3, m3, b3, G3⟩ := M.leave
  obtain ⟨f4, fd4, m4, b4, G4⟩ := M.skip
  obtain ⟨f5, fd5, aE, m5, k5, hE, b5, b5', G5⟩ := M.built
  obtain ⟨f6, fd6, m6, b6, G6⟩ := M.take
  obtain ⟨f7, fd7, m7, b7, G7⟩ := M.sees
  obtain ⟨f8, fd8, m8, b8, G8⟩ := M.beg
  obtain ⟨f9, fd9, m9, b9, G9⟩ := M.fail
  obtain ⟨f0, fd0, m0, k0, b0, G0⟩ := M.lim
  obtain ⟨fE, fdE, mE, bE, GE⟩ := NE
  have T := M.T
  have hdE : Vals [V.ref aE] [Value.ref aE] := .cons rfl .nil
  refine ⟨f, fd, m, b, F.okX scAtom (fun vs H Q E h => ?_) (fun cdv A outer s H vs Q E hr h => ?_)⟩
  · obtain ⟨R, r, d, gg, rfl, _⟩ := h
    rfl
  obtain ⟨R, r, d, gg, rfl, hg, hR, q⟩ := h
  obtain ⟨g0, rfl⟩ := fuel_pos q
  refine ⟨_, (pss_cons (ps_if (pt_not (pt_val (pe_meth0 (pv 0) T.cl m8 G8 (hr.mono (by omega)) b8 .nil pass0))) (pss_one (ps_expr (pe_meth0 (pv 0) T.cl m9 G9 (hr.mono (by omega)) b9 .nil (passes_call (takes_of rfl rfl rfl rfl) fun _ _ _ _ h => h)))) pss_nil)
    (pss_cons (ps_asg (pe_ix ix_list (pe_fld (pv 0) rfl) (pe_fld (pv 0) rfl) (fun _ _ => rfl)) (pg_tup rfl (pgs_cons (pg_name (i := 1) scAtom.nd rfl (Or.inl rfl)) (pgs_cons (pg_name (i := 2) scAtom.nd rfl (Or.inl rfl)) (pgs_cons (pg_name (i := 3) scAtom.nd rfl (Or.inl rfl)) pgs_nil)))))
    (pss_cons (ps_fldaug (pv 0) pe_int in_add)
    (pss_cons (ps_if (pt_cmpR op_eq (pv 1) pe_str (nomark _)) (pss_one (ps_ret (pe_tup (pa_cons (pe_tup (pa_cons pe_str (pa_cons (pv 2) pa_nil))) (pa_cons pe_int pa_nil))))) pss_nil)
    (pss_cons (ps_if (pt_cmpR op_eq (pv 1) pe_str (nomark _)) (pss_one (ps_ret (pe_tup (pa_cons (pe_tup (pa_cons pe_str (pa_cons (pv 2) pa_nil))) (pa_cons pe_int pa_nil))))) pss_nil)
    (pss_cons (ps_if (pt_cmpR op_eq (pv 1) pe_str (nomark _)) (pss_one (ps_ret (pe_tup (pa_cons (pe_ix ix_kdict (pe_glob (v := .ref c.aC) (by rfl) c.g rfl) (pv 2) (fun _ _ => rfl)) (pa_cons pe_int pa_nil))))) pss_nil)
    (pss_cons (ps_set (i := 4) scAtom.nd rfl (Or.inl rfl) (pe_meth0 (pv 0) T.cl mE GE (hr.mono (by omega)) bE .nil (passes_call (takes_of rfl rfl rfl rfl) fun _ _ _ _ h => h)))
    (pss_cons (ps_if (pt_val (pe_meth (pv 0) T.cl m2 G2 (hr.mono (by omega)) b2 .nil pass0 (pa_cons pe_str pa_nil))) (pss_one (ps_set (i := 4) scAtom.nd rfl (Or.inl rfl) (pe_call G5 (hr.mono (by omega)) (by rfl) m5 k5 b5' hdE (passes_call (takes_of rfl rfl rfl rfl) fun _ _ _ _ h => h) (pa_cons pe_str (pa_cons (pe_lst (pa_cons (pv 4) (pa_cons (pe_meth0 (pv 0) T.cl mE GE (hr.mono (by omega)) bE .nil (passes_call (takes_of rfl rfl rfl rfl) fun _ _ _ _ h => h)) pa_nil))) pa_nil))))) pss_nil)
    (pss_cons (ps_expr (pe_meth (pv 0) T.cl m4 G4 (hr.mono (by omega)) b4 .nil (passes_call (takes_of rfl rfl rfl rfl) fun _ _ _ _ h => h) (pa_cons pe_str pa_nil)))
    (pss_one (ps_ret (pv 4)))))))))))), ?_⟩
  have k0 := Kp.refl R.p H
  refine ⟨_, rfl, g_meth hR no_beg ?_⟩
  simp only [Afd.P] at q
  refine do_beg (H := H) hR k0 (fun H1 k1 R1 f1 => ⟨_, rfl, ?_⟩)
  rcases bool_cases (begA r) with cb | cb
  rotate_left
  · refine if_not_f cb ?_
    rw [if_pos cb] at q
    refine ⟨_, rfl, g_meth R1 no_fail ?_⟩
    exact ⟨R, r, d, rfl, R1, q.fail.kp k1⟩
  refine if_not_t cb ?_
  rw [if_neg (by rw [cb]; decide)] at q
  cases r with
  | nil => cases cb
  | cons t r =>
  obtain ⟨as, a, h1, h2, h3⟩ := ix_head (K := K) R1 rfl
  refine ⟨_, rfl, g_tokens T R1 ?_⟩
  refine ⟨_, rfl, g_at T R1 ?_⟩
  refine ⟨R.tl, _, _, _, rfl, rfl, h1, h2, ?_⟩
  refine ⟨a, _, rfl, SqT.of h3, rfl, _, _, rfl, _, _, rfl, _, _, rfl, rfl, ?_⟩
  refine ⟨_, rfl, g_step T R1 fun H2 k2 R2 => ?_⟩
  have k2 := k1.trans k2
  refine ⟨_, rfl, rfl, _, rfl, ?_⟩
  show if decide (V.str (kS t.k) = V.str (kS .num)) = true then _ else _
  rw [kS_inj]
  cases hk : t.k with
  | num =>
    rw [if_pos (by simp only [isK, hk]; decide)] at q
    refine iteT ?_
    refine ⟨_, rfl, (by show 2 ≤ sizeLine; decide), fun p1 hp1 => ⟨(by show 2 ≤ sizeLine; decide), fun p2 hp2 => ?_⟩⟩
    have s := (same_new hp1 (.tup [.str "num", vV t])).trans (same_new hp2 (.tup [.ref p1, .int 1]))
    exact q _ p2 (.ref p1) (k2.trans (.same s)) (R2.same s) upd_same
  | name =>
    rw [if_pos (by simp only [isK, hk]; decide)] at q
    refine iteF ?_
    refine ⟨_, rfl, rfl, _, rfl, iteT ?_⟩
    refine ⟨_, rfl, (by show 2 ≤ sizeLine; decide), fun p1 hp1 => ⟨(by show 2 ≤ sizeLine; decide), fun p2 hp2 => ?_⟩⟩
    have s := (same_new hp1 (.tup [.str "name", vV t])).trans (same_new hp2 (.tup [.ref p1, .int 1]))
    exact q _ p2 (.ref p1) (k2.trans (.same s)) (R2.same s) upd_same
  | word =>
    rw [if_pos (by simp only [isK, hk]; decide)] at q
    refine iteF ?_
    refine ⟨_, rfl, rfl, _, rfl, iteF ?_⟩
    refine ⟨_, rfl, rfl, _, rfl, iteT ?_⟩
    have e : vV t = .str (S t.s) := by unfold vV; rw [hk]
    have lk := look_some c t.s
    have hb : (decide (t.s = wTrue) || decide (t.s = wFalse) || decide (t.s = wUnit)) = true := by simpa only [begA, hk] using cb
    rw [← look_is c] at hb
    obtain ⟨u, hu⟩ := Option.isSome_iff_exists.mp hb
    rw [hu] at lk
    obtain ⟨av, rfl⟩ : ∃ av, u = Value.ref av := by
      revert hu
      split
      · exact fun z => ⟨_, (Option.some.inj z).symm⟩
      · split
        · exact fun z => ⟨_, (Option.some.inj z).symm⟩
        · split
          · exact fun z => ⟨_, (Option.some.inj z).symm⟩
          · intro z; cases z
    refine ⟨_, rfl, c.aC, S t.s, .ref av, rfl, e, ⟨c.es, c.n, _, c.D.at_, c.D.lit, lk, rfl⟩, (by show 2 ≤ sizeLine; decide), fun p2 hp2 => ?_⟩
    have s := same_new hp2 (.tup [.ref av, .int 1])
    exact q _ p2 (.ref av) (k2.trans (.same s)) (R2.same s) upd_same
  | sign =>
    rw [if_neg (by simp only [isK, hk]; decide)] at q
    refine iteF ?_
    refine ⟨_, rfl, rfl, _, rfl, iteF ?_⟩
    refine ⟨_, rfl, rfl, _, rfl, iteF ?_⟩
    refine ⟨_, rfl, g_meth R2 no_expr ?_⟩
    refine do_sub R2 k2 q (fun x q H3 q3 u3 k3 R3 h3 f3 => ?_)
    refine ⟨_, rfl, g_meth R3 no_skips ?_⟩
    refine do_skips (H := H) z_sCom R3 k3 (fun c H4 k4 R4 f4 => ⟨_, rfl, iteT ?_⟩) (fun c H4 k4 R4 f4 => ⟨_, rfl, iteF ?_⟩)
    · rw [if_pos c] at q
      have e4 := f4 _ _ (tup_ne R3 h3) h3
      refine ⟨_, rfl, _, rfl, g_meth R4 no_expr ?_⟩
      refine do_sub R4 k4 q (fun y q H5 q5 u5 k5 R5 h5 f5 => ?_)
      refine ⟨(by show 2 ≤ sizeLine; decide), fun l hl => ?_⟩
      have s5 := same_new hl (.lst [.ref q3, .ref q5])
      have e5 := s5 _ _ (f5 _ _ (tup_ne R4 e4) e4)
      refine do_built (H := H) (as := [q3, q5]) (vs0 := [u3, u5]) (ns := [x.1, y.1]) (xs := []) upd_same (hE.sq _) (by simp) (by simp) (by simp) rfl rfl (p2 e5 (s5 _ _ h5)) (R5.same s5) (k5.trans (.same s5)) rfl q (fun q H8 q8 u8 k8 R8 h8 f8 => ?_)
      refine ⟨_, rfl, g_meth R8 no_skip ?_⟩
      refine do_skip z_sRp R8 k8 q (fun q H9 k9 R9 f9 => ?_)
      exact ⟨_, rfl, q H9 q8 u8 k9 R9 (f9 _ _ (tup_ne R8 h8) h8)⟩
    · rw [if_neg (by rw [c]; decide)] at q
      have e4 := f4 _ _ (tup_ne R3 h3) h3
      refine ⟨_, rfl, g_meth R4 no_skip ?_⟩
      refine do_skip z_sRp R4 k4 q (fun q H9 k9 R9 f9 => ?_)
      exact ⟨_, rfl, q H9 q3 u3 k9 R9 (f9 _ _ (tup_ne R4 e4) e4)⟩
theorem maxI (n m : Nat) : (if (m : Int) > (n : Int) then (m : Int) else (n : Int)) = ((max n m : Nat) : Int) := by
  split <;> omega
theorem RdAt.put {H : Hp} {R : RS} {r : List Tk} {d : Nat} {lc : Addr} {xs ys : List V} (hR : RdAt C H R r d) (n1 : lc ≠ R.tl) (h : H lc = some (.lst xs)) : RdAt C (upd H lc (.lst ys)) R r d := by
  have np : R.p ≠ lc := ne_of hR.ins h (by intro z; cases z)
  obtain ⟨as, h1, h2, h3⟩ := hR.tok.lst
  refine ⟨hR.d60, hR.suf, ⟨hR.tok.small, hR.tok.wf, as, ?_, h2, fun i a t e1 e2 => ?_⟩, ?_⟩
  · rw [upd_ne (Ne.symm n1)]; exact h1
  · have e3 := h3 i a t e1 e2
    rw [upd_ne (ne_of e3 h (by intro z; cases z))]
    exact e3
  · rw [upd_ne np]; exact hR.ins
def HInv (TE : ETx P K mg) (C : Addr) (R : RS) (H : Hp) (d : Nat) (Q : VK) (E : XK) (gb : Nat) (qh : Addr) (uh : V) (nh : Nat) (nm : V) (ql : Addr) (ul : V) (nl : Nat) (lc : Addr) (m : Nat) (σ' : L2.St) (H' : Hp) : Prop :=
  ∃ (n : Nat) (xs : List V) (r' : List Tk) (o6 o7 : Option V), σ' = [some (.ref R.p), some (.ref qh), some nm, some (.ref ql), some (.int (n : Int)), some (.ref lc), o6, o7] ∧ m ≤ gb ∧ xs.length + m ≤ gb ∧ Kp R.p H H' ∧ RdAt C H' R r' d ∧
    H' lc = some (.lst xs) ∧ H' qh = some (.tup [uh, .int (nh : Int)]) ∧ H' ql = some (.tup [ul, .int (nl : Int)]) ∧ PostR TE C R d H (Afd.P R.sz m (.handL n) d r') Q E
theorem scHand : FnScope ["self", "handled", "name", "last", "depth", "clauses", "names", "body"] ["self"] (defScope (meS 12)) := ⟨rfl, rfl, rfl, by decide +kernel, rfl, by decide +kernel, by decide +kernel⟩
theorem ok_handler (M : Small P w K mg base C TE) (F : MTx K C 12 "handler" "Reader.handler" ["self"]) {g : Nat} (hg1 : g ≤ 1000) (mx : mg "max" = none) (mt : mg "tuple" = none) (NE : NOk P w K mg base C TE "expression" .expr g) : NOk P w K mg base C TE "handler" .handler (g + 1) := by
  obtain ⟨f, fd, m, b, F⟩ := F
  obtain ⟨f1, fd1, m1, b1, G1⟩ := M.enter
  obtain ⟨f2, fd2, m2, b2, G2⟩ := M.skips
  obtain ⟨f3, fd3, m3, b3, G3⟩ := M.leave
  obtain ⟨f4, fd4, m4, b4, G4⟩ := M.skip
  obtain ⟨f5, fd5, aE, m5, k5, hE, b5, b5', G5⟩ := M.built
  obtain ⟨f6, fd6, m6, b6, G6⟩ := M.take
  obtain ⟨f7, fd7, m7, b7, G7⟩ := M.sees
  obtain ⟨f8, fd8, m8, b8, G8⟩ := M.beg
  obtain ⟨f9, fd9, m9, b9, G9⟩ := M.fail
  obtain ⟨f0, fd0, m0, k0, b0, G0⟩ := M.lim
  obtain ⟨fE, fdE, mE, bE, GE⟩ := NE
  have T := M.T
  have hdE : Vals [V.ref aE] [Value.ref aE] := .cons rfl .nil
  refine ⟨f, fd, m, b, F.okX scHand (fun vs H Q E h => ?_) (fun cdv A outer s H vs Q E hr h => ?_)⟩
  · obtain ⟨R, r, d, gg, rfl, _⟩ := h
    rfl
  obtain ⟨R, r, d, gg, rfl, hg, hR, q⟩ := h
  obtain ⟨g0, rfl⟩ := fuel_pos q
  refine ⟨_, (pss_cons (ps_set (i := 1) scHand.nd rfl (Or.inl rfl) (pe_meth0 (pv 0) T.cl mE GE (hr.mono (by omega)) bE .nil (passes_call (takes_of rfl rfl rfl rfl) fun _ _ _ _ h => h)))
    (pss_cons (ps_expr (pe_meth (pv 0) T.cl m4 G4 (hr.mono (by omega)) b4 .nil (passes_call (takes_of rfl rfl rfl rfl) fun _ _ _ _ h => h) (pa_cons pe_str pa_nil)))
    (pss_cons (ps_expr (pe_meth (pv 0) T.cl m4 G4 (hr.mono (by omega)) b4 .nil (passes_call (takes_of rfl rfl rfl rfl) fun _ _ _ _ h => h) (pa_cons pe_str pa_nil)))
    (pss_cons (ps_set (i := 2) scHand.nd rfl (Or.inl rfl) (pe_meth (pv 0) T.cl m6 G6 (hr.mono (by omega)) b6 .nil (passes_call (takes_of rfl rfl rfl rfl) fun _ _ _ _ h => h) (pa_cons pe_str pa_nil)))
    (pss_cons (ps_expr (pe_meth (pv 0) T.cl m4 G4 (hr.mono (by omega)) b4 .nil (passes_call (takes_of rfl rfl rfl rfl) fun _ _ _ _ h => h) (pa_cons pe_str pa_nil)))
    (pss_cons (ps_set (i := 3) scHand.nd rfl (Or.inl rfl) (pe_meth0 (pv 0) T.cl mE GE (hr.mono (by omega)) bE .nil (passes_call (takes_of rfl rfl rfl rfl) fun _ _ _ _ h => h)))
    (pss_cons (ps_set (i := 4) scHand.nd rfl (Or.inl rfl) (pe_callB (call_max2 rfl) (by rfl) mx (by decide +kernel) (pa_cons (pe_ix ix_tup (pv 1) pe_int (fun _ _ => rfl)) (pa_cons (pe_ix ix_tup (pv 3) pe_int (fun _ _ => rfl)) pa_nil))))
    (pss_cons (ps_set (i := 5) scHand.nd rfl (Or.inl rfl) (pe_lst pa_nil))
    (pss_cons (ps_while (passes_of rfl) (pt_val (pe_meth (pv 0) T.cl m2 G2 (hr.mono (by omega)) b2 .nil pass0 (pa_cons pe_str pa_nil))) (pss_cons (ps_set (i := 6) scHand.nd rfl (Or.inl rfl) (pe_tup (pa_cons (pe_meth (pv 0) T.cl m6 G6 (hr.mono (by omega)) b6 .nil (passes_call (takes_of rfl rfl rfl rfl) fun _ _ _ _ h => h) (pa_cons pe_str pa_nil)) (pa_cons (pe_meth (pv 0) T.cl m6 G6 (hr.mono (by omega)) b6 .nil (passes_call (takes_of rfl rfl rfl rfl) fun _ _ _ _ h => h) (pa_cons pe_str pa_nil)) (pa_cons (pe_meth (pv 0) T.cl m6 G6 (hr.mono (by omega)) b6 .nil (passes_call (takes_of rfl rfl rfl rfl) fun _ _ _ _ h => h) (pa_cons pe_str pa_nil)) pa_nil)))))
    (pss_cons (ps_expr (pe_meth (pv 0) T.cl m4 G4 (hr.mono (by omega)) b4 .nil (passes_call (takes_of rfl rfl rfl rfl) fun _ _ _ _ h => h) (pa_cons pe_str pa_nil)))
    (pss_cons (ps_set (i := 7) scHand.nd rfl (Or.inl rfl) (pe_meth0 (pv 0) T.cl mE GE (hr.mono (by omega)) bE .nil (passes_call (takes_of rfl rfl rfl rfl) fun _ _ _ _ h => h)))
    (pss_cons (ps_set (i := 4) scHand.nd rfl (Or.inl rfl) (pe_callB (call_max2 rfl) (by rfl) mx (by decide +kernel) (pa_cons (pv 4) (pa_cons (pe_ix ix_tup (pv 7) pe_int (fun _ _ => rfl)) pa_nil))))
    (pss_one (ps_expr (pe_bm PySem.F.plainAttrs_list PySem.F.slot_list_append PySem.F.type_list_append mt_append (pv 5) (pa_cons (pe_op op_cat2 (pv 6) (pe_tup (pa_cons (pe_ix ix_tup (pv 7) pe_int (fun _ _ => rfl)) pa_nil))) pa_nil)))))))))
    (pss_cons (ps_expr (pe_meth (pv 0) T.cl m4 G4 (hr.mono (by omega)) b4 .nil (passes_call (takes_of rfl rfl rfl rfl) fun _ _ _ _ h => h) (pa_cons pe_str pa_nil)))
    (pss_one (ps_ret (pe_call G0 (hr.mono (by omega)) (by rfl) m0 k0 b0 .nil (passes_call (takes_of rfl rfl rfl rfl) fun _ _ _ _ h => h) (pa_cons (pe_tup (pa_cons pe_str (pa_cons (pe_ix ix_tup (pv 1) pe_int (fun _ _ => rfl)) (pa_cons (pe_tup (pa_cons (pv 2) (pa_cons (pe_ix ix_tup (pv 3) pe_int (fun _ _ => rfl)) pa_nil))) (pa_cons (pe_callTy call_tuple_of (by rfl) mt (by decide +kernel) (pa_cons (pv 5) pa_nil)) pa_nil))))) (pa_cons (pe_op op_add (pv 4) pe_int) pa_nil))))))))))))))), ?_⟩
  have k0 := Kp.refl R.p H
  refine ⟨_, rfl, g_meth hR no_expr ?_⟩
  refine do_sub hR k0 q (fun x q H1 q1 u1 k1 R1 h1 f1 => ?_)
  refine ⟨_, rfl, g_meth R1 no_skip ?_⟩
  refine do_skip z_sLb R1 k1 q (fun q H2 k2 R2 f2 => ?_)
  have e2 := f2 _ _ (tup_ne R1 h1) h1
  refine ⟨_, rfl, g_meth R2 no_skip ?_⟩
  refine do_skip z_return R2 k2 q (fun q H3 k3 R3 f3 => ?_)
  have e3 := f3 _ _ (tup_ne R2 e2) e2
  refine ⟨_, rfl, g_meth R3 no_take ?_⟩
  refine do_take z_name R3 k3 q (fun q t ht H4 k4 R4 f4 => ?_)
  have e4 := f4 _ _ (tup_ne R3 e3) e3
  refine ⟨_, rfl, g_meth R4 no_skip ?_⟩
  refine do_skip z_sFat R4 k4 q (fun q H5 k5 R5 f5 => ?_)
  have e5 := f5 _ _ (tup_ne R4 e4) e4
  refine ⟨_, rfl, g_meth R5 no_expr ?_⟩
  refine do_sub R5 k5 q (fun y q H6 q6 u6 k6 R6 h6 f6 => ?_)
  have e6 := f6 _ _ (tup_ne R5 e5) e5
  refine ⟨_, rfl, q1, _, 1, _, rfl, rfl, SqT.of e6, ix1, ?_⟩
  refine ⟨_, rfl, q6, _, 1, _, rfl, rfl, SqT.of h6, ix1, ?_⟩
  refine ⟨_, _, rfl, ?_⟩
  rw [maxI]
  refine ⟨(by show 0 ≤ sizeLine; decide), fun lc hlc => ?_⟩
  have s6 := same_new hlc (.lst [])
  have ntl : lc ≠ R.tl := by
    obtain ⟨as, z, _⟩ := R6.tok.lst
    intro e
    rw [e, z] at hlc
    cases hlc
  have hlcH : H lc = none := by
    have np : lc ≠ R.p := by
      intro e
      rw [e, R6.ins] at hlc
      cases hlc
    cases e : H lc with
    | none => rfl
    | some o => rw [k6 _ _ np e] at hlc; cases hlc
  refine ⟨HInv TE C R H d Q E g0 q1 u1 x.1 (vV t) q6 u6 y.1 lc, ⟨g0, _, [], y.2, none, none, rfl, Nat.le_refl _, (by simp), k6.trans (.same s6), R6.same s6, upd_same, s6 _ _ e6, s6 _ _ h6, q⟩, ?_⟩
  clear q e2 e3 e4 e5 e6 s6 f1 f2 f3 f4 f5 f6 h6 h1 k1 k2 k3 k4 k5 k6 R1 R2 R3 R4 R5 R6
  rintro mm σ' L ⟨n, xs, r', o6, o7, rfl, hm, hxm, k1, R1, hl, hh, hq, q⟩
  obtain ⟨m0, rfl⟩ := fuel_pos q
  refine ⟨_, rfl, g_meth R1 no_skips ?_⟩
  simp only [Afd.P] at q
  refine do_skips (H := H) z_sBar R1 k1 (fun c L2 k2 R2 f2 => ⟨_, rfl, iteT ?_⟩) (fun c L2 k2 R2 f2 => ⟨_, rfl, iteF ?_⟩)
  · rw [if_pos c] at q
    refine ⟨fun σ' H' => ∃ m', m' < m0 + 1 ∧ HInv TE C R H d Q E g0 q1 u1 x.1 (vV t) q6 u6 y.1 lc m' σ' H', fun _ _ h => h, ?_⟩
    have l2 := f2 _ _ (lst_ne R1 hl) hl
    have a2 := f2 _ _ (tup_ne R1 hh) hh
    have b2 := f2 _ _ (tup_ne R1 hq) hq
    refine ⟨_, rfl, g_meth R2 no_take ?_⟩
    refine do_take z_name R2 k2 q (fun q t1 ht1 L3 k3 R3 f3 => ?_)
    refine ⟨_, rfl, g_meth R3 no_take ?_⟩
    refine do_take z_name R3 k3 q (fun q t2 ht2 L4 k4 R4 f4 => ?_)
    refine ⟨_, rfl, g_meth R4 no_take ?_⟩
    refine do_take z_name R4 k4 q (fun q t3 ht3 L5 k5 R5 f5 => ?_)
    refine ⟨(by show 3 ≤ sizeLine; decide), fun p hp => ?_⟩
    have s5 := same_new hp (.tup [vV t1, vV t2, vV t3])
    have l5 := s5 _ _ (f5 _ _ (lst_ne R4 (f4 _ _ (lst_ne R3 (f3 _ _ (lst_ne R2 l2) l2)) (f3 _ _ (lst_ne R2 l2) l2))) (f4 _ _ (lst_ne R3 (f3 _ _ (lst_ne R2 l2) l2)) (f3 _ _ (lst_ne R2 l2) l2)))
    have tr : ∀ {a : Addr} {zs : List V}, L2 a = some (.tup zs) → upd L5 p (.tup [vV t1, vV t2, vV t3]) a = some (.tup zs) := fun {a zs} h => by
      have h3 := f3 _ _ (tup_ne R2 h) h
      have h4 := f4 _ _ (tup_ne R3 h3) h3
      exact s5 _ _ (f5 _ _ (tup_ne R4 h4) h4)
    have a5 := tr a2
    have b5 := tr b2
    have R5' := R5.same s5
    have k5' := k5.trans (.same s5)
    have p5 : upd L5 p (.tup [vV t1, vV t2, vV t3]) p = some (.tup [vV t1, vV t2, vV t3]) := upd_same
    refine ⟨_, rfl, g_meth R5' no_skip ?_⟩
    refine do_skip z_sFat R5' k5' q (fun q L6 k6 R6 f6 => ?_)
    have l6 := f6 _ _ (lst_ne R5' l5) l5
    have a6 := f6 _ _ (tup_ne R5' a5) a5
    have b6 := f6 _ _ (tup_ne R5' b5) b5
    have p6 := f6 _ _ (tup_ne R5' p5) p5
    refine ⟨_, rfl, g_meth R6 no_expr ?_⟩
    refine do_sub R6 k6 q (fun z q L7 q7 u7 k7 R7 h7 f7 => ?_)
    have l7 := f7 _ _ (lst_ne R6 l6) l6
    have a7 := f7 _ _ (tup_ne R6 a6) a6
    have b7 := f7 _ _ (tup_ne R6 b6) b6
    have p7 := f7 _ _ (tup_ne R6 p6) p6
    refine ⟨_, rfl, _, rfl, q7, _, 1, _, rfl, rfl, SqT.of h7, ix1, ?_⟩
    refine ⟨_, _, rfl, ?_⟩
    rw [maxI]
    refine ⟨_, rfl, .inl ⟨rfl, _, SqL.of l7⟩, ?_⟩
    refine ⟨_, rfl, _, rfl, q7, _, 0, _, rfl, rfl, SqT.of h7, ix0, (by show 1 ≤ sizeLine; decide), fun t4 ht4 => ?_⟩
    have s7 := same_new ht4 (.tup [u7])
    refine ⟨p, t4, _, _, rfl, rfl, SqT.of (s7 _ _ p7), SqT.of upd_same, by simp, by simp, fun q9 L9 s9 h9 => ?_⟩
    have l9 := s9 _ _ (s7 _ _ l7)
    have R9 := (R7.same s7).same s9
    refine ⟨lc, xs, _, rfl, rfl, l9, (by show _ < _; rw [sizeLine_eq]; omega), ?_⟩
    have kk : ∀ {b : Addr} {o : HO}, b ≠ lc → L9 b = some o → upd L9 lc (.lst (xs ++ [.ref q9])) b = some o := fun n e => by rw [upd_ne n]; exact e
    refine ⟨m0, Nat.lt_succ_self _, _, xs ++ [.ref q9], _, _, _, rfl, by omega, (by rw [List.length_append]; show xs.length + 1 + m0 ≤ g0; omega), fun b o n e => ?_, R9.put ntl l9, upd_same, kk (ne_of a7 l7 (by intro z; cases z)) (s9 _ _ (s7 _ _ a7)), kk (ne_of b7 l7 (by intro z; cases z)) (s9 _ _ (s7 _ _ b7)), q⟩
    have nb : b ≠ lc := fun z => by rw [z, hlcH] at e; cases e
    exact kk nb (s9 _ _ (s7 _ _ (k7 b o n e)))
  · rw [if_neg (by rw [c]; decide)] at q
    have l2 := f2 _ _ (lst_ne R1 hl) hl
    have a2 := f2 _ _ (tup_ne R1 hh) hh
    have b2 := f2 _ _ (tup_ne R1 hq) hq
    refine ⟨_, rfl, g_meth R2 no_skip ?_⟩
    refine do_skip z_sRb R2 k2 q (fun q L6 k6 R6 f6 => ?_)
    have l6 := f6 _ _ (lst_ne R2 l2) l2
    have a6 := f6 _ _ (tup_ne R2 a2) a2
    have b6 := f6 _ _ (tup_ne R2 b2) b2
    refine ⟨_, rfl, q1, _, 0, _, rfl, rfl, SqT.of a6, ix0, ?_⟩
    refine ⟨_, rfl, _, rfl, q6, _, 0, _, rfl, rfl, SqT.of b6, ix0, (by show 2 ≤ sizeLine; decide), fun p1 hp1 => ?_⟩
    have s1 := same_new hp1 (.tup [vV t, u6])
    refine ⟨_, rfl, lc, xs, rfl, .inl ⟨SqL.of (s1 _ _ l6), fun p2 hp2 => ?_⟩⟩
    have s2 := same_new hp2 (.tup xs)
    refine ⟨(by show 4 ≤ sizeLine; decide), fun p3 hp3 => ?_⟩
    have s3 := (s1.trans s2).trans (same_new hp3 (.tup [.str "handle", u1, .ref p1, .ref p2]))
    refine ⟨_, rfl, _, _, rfl, rfl, ⟨.ref p3, n + 1, rfl, fun h => ?_, fun h H' q' k' h' => ?_⟩⟩
    · unfold lim at q
      rw [if_pos h] at q
      exact (q.bad.kp (k6.trans (.same s3))).s
    · unfold lim at q
      rw [if_neg (by omega)] at q
      exact q H' q' _ ((k6.trans (.same s3)).trans (.same k')) ((R6.same s3).same k') h'
end
end Af

/-! W9: all parts with any fuel; program. -/
namespace Af
open PySem PySem.Spec PyProof.Rows L2 Afd
section
variable {P : Program} {w : World} {K : PySem.W.Frag} {mg : Str → Option Value} {base : Heap} {C : Addr} {TE : ETx P K mg}
/-- with no fuel there is nothing to keep -/
theorem nok0 {names : List Str} {j : Nat} {x qual : Str} {nt : NT} (sc : FnScope names ["self"] (defScope (meS j))) (hb : defBody (meS j) = defBody (meS j)) (F : MTx K C j x qual ["self"]) : NOk P w K mg base C TE x nt 0 := by
  obtain ⟨f, fd, m, b, F⟩ := F
  refine ⟨f, fd, m, b, F.okX sc (fun vs H Q E h => ?_) (fun cdv A outer s H vs Q E hr h => ?_)⟩
  · obtain ⟨R, r, d, gg, rfl, _⟩ := h
    rfl
  obtain ⟨R, r, d, gg, rfl, hg, hR, q⟩ := h
  obtain ⟨g0, rfl⟩ := fuel_pos2 q
  omega
/-- what the head tells of the methods of the grammar -/
structure Meths (K : PySem.W.Frag) (C : Addr) : Prop where
  ty : MTx K C 9 "plain_type" "Reader.plain_type" ["self"]
  expr : MTx K C 10 "expression" "Reader.expression" ["self"]
  choice : MTx K C 11 "choice" "Reader.choice" ["self"]
  hand : MTx K C 12 "handler" "Reader.handler" ["self"]
  cmp : MTx K C 13 "comparison" "Reader.comparison" ["self"]
  add : MTx K C 14 "addition" "Reader.addition" ["self"]
  mul : MTx K C 15 "multiplication" "Reader.multiplication" ["self"]
  pre : MTx K C 16 "prefix" "Reader.prefix" ["self"]
  atom : MTx K C 18 "atom" "Reader.atom" ["self"]
structure AllN (P : Program) (w : World) (K : PySem.W.Frag) (mg : Str → Option Value) (base : Heap) (C : Addr) (TE : ETx P K mg) (g : Nat) : Prop where
  ty : NOk P w K mg base C TE "plain_type" .ty g
  expr : NOk P w K mg base C TE "expression" .expr g
  choice : NOk P w K mg base C TE "choice" .choice g
  hand : NOk P w K mg base C TE "handler" .handler g
  cmp : NOk P w K mg base C TE "comparison" .cmp g
  add : NOk P w K mg base C TE "addition" .add g
  mul : NOk P w K mg base C TE "multiplication" .mul g
  pre : NOk P w K mg base C TE "prefix" .pre g
  atom : NOk P w K mg base C TE "atom" .atom g
theorem allN (M : Small P w K mg base C TE) (c : CTx K w mg) (mx : mg "max" = none) (mt : mg "tuple" = none) (F : Meths K C) : ∀ g, g ≤ 1000 → AllN P w K mg base C TE g
  | 0, _ => ⟨nok0 scTy rfl F.ty, nok0 scExpr rfl F.expr, nok0 scChoice rfl F.choice, nok0 scHand rfl F.hand, nok0 scCmp rfl F.cmp, nok0 scAdd rfl F.add, nok0 scMul rfl F.mul, nok0 scPre rfl F.pre, nok0 scAtom rfl F.atom⟩
  | g + 1, h => by
    have I := allN M c mx mt F g (by omega)
    exact ⟨ok_ty M F.ty I.ty, ok_expr M F.expr I.expr I.add I.choice I.hand I.cmp, ok_choice M F.choice I.expr, ok_handler M F.hand (by omega) mx mt I.expr, ok_cmp M F.cmp I.add, ok_add M F.add I.mul, ok_mul M F.mul I.pre, ok_pre M F.pre I.pre I.atom, ok_atom M F.atom c I.expr⟩
/-! ### program -/
def PostU (TE : ETx P K mg) (R : RS) (H : Hp) (out : Out Unit) (Q : VK) (E : XK) : Prop := match out with
  | .no => False
  | .bad e => ErrP TE R.p H e E
  | .ok _ => ∀ H' v, Kp R.p H H' → Q v H'
structure spProg (TE : ETx P K mg) (C : Addr) (vs : List V) (H : Hp) (Q : VK) (E : XK) : Prop where
  ex : ∃ (R : RS) (r : List Tk) (g : Nat), vs = [.ref R.p] ∧ g ≤ 9 ∧ RdAt C H R r 60 ∧ PostU TE R H (prog R.sz g r) Q E
section
variable {R : RS} {r : List Tk} {d d0 : Nat} {H H1 : Hp} {Q Q1 : VK} {E : XK} {z : Str} {v : Cs} {f : List Tk → Out Unit}
theorem PostU.fail {sz : Nat} (h : PostU TE R H (fail sz r) Q E) : ErrP TE R.p H (failE sz r) E := by rw [fail_eq] at h; exact h
theorem dou_skip (hz : z = S v) (hR : RdAt C H1 R r d) (k : Kp R.p H H1) (h : PostU TE R H (skip R.sz v r f) Q E)
    (hok : PostU TE R H (f r.tail) Q E → ∀ H', Kp R.p H H' → RdAt C H' R r.tail d → (∀ b o, b ≠ R.p → H1 b = some o → H' b = some o) → Q1 .non H') : spSkip TE C [.ref R.p, .str z] H1 Q1 E := by
  subst hz
  unfold skip at h
  refine ⟨R, r, d, v, rfl, hR, fun c H' k' R' => ?_, fun c => ?_⟩
  · rw [if_pos c] at h
    exact hok h H' (k.trans k') R' k'
  · rw [if_neg (by rw [c]; decide)] at h
    exact h.fail.kp k
theorem dou_take {kk : TK} (hz : z = kS kk) (hR : RdAt C H1 R r d) (k : Kp R.p H H1) (h : PostU TE R H (take R.sz kk r f) Q E)
    (hok : PostU TE R H (f r.tail) Q E → ∀ t, t.k = kk → ∀ H', Kp R.p H H' → RdAt C H' R r.tail d → (∀ b o, b ≠ R.p → H1 b = some o → H' b = some o) → Q1 (vV t) H') : spTake TE C [.ref R.p, .str z] H1 Q1 E := by
  subst hz
  unfold take at h
  refine ⟨R, r, d, kk, rfl, hR, fun c H' t ht k' R' => ?_, fun c => ?_⟩
  · rw [if_pos c] at h
    obtain ⟨t', r', rfl⟩ := isK_cons c
    obtain rfl : t' = t := Option.some.inj ht
    exact hok h t' (of_decide_eq_true c) H' (k.trans k') R' k'
  · rw [if_neg (by rw [c]; decide)] at h
    exact h.fail.kp k
theorem dou_sub {nt : NT} {g g' : Nat} {fx : Nat × List Tk → Out Unit} (hR : RdAt C H1 R r d) (k : Kp R.p H H1) (h : PostU TE R H ((Afd.P R.sz g' nt d r).bind fx) Q E)
    (hok : ∀ x, PostU TE R H (fx x) Q E → ∀ H' q u, Kp R.p H H' → RdAt C H' R x.2 d → H' q = some (.tup [u, .int (x.1 : Int)]) → (∀ b o, b ≠ R.p → H1 b = some o → H' b = some o) → Q1 (.ref q) H') (hle : g' ≤ g := by omega) : spNT TE C nt g [.ref R.p] H1 Q1 E := by
  refine ⟨R, r, d, g', rfl, hle, hR, ?_⟩
  cases e : Afd.P R.sz g' nt d r with
  | no => rw [e] at h; exact h.elim
  | bad e' => rw [e] at h; exact ErrP.kp (show ErrP TE R.p H e' E from h) k
  | ok x =>
    rw [e] at h
    exact fun H' q u k' R' hq => hok x h H' q u (k.trans k') R' hq k'
theorem fuel_posU {g sz : Nat} (h : PostU TE R H (prog sz g r) Q E) : ∃ g0, g = g0 + 1 := by
  cases g with
  | zero => exact h.elim
  | succ g => exact ⟨g, rfl⟩
def PInv (TE : ETx P K mg) (C : Addr) (R : RS) (H : Hp) (Q : VK) (E : XK) (lc : Addr) (m : Nat) (σ' : L2.St) (H' : Hp) : Prop :=
  ∃ (xs : List V) (r' : List Tk) (o2 o3 : Option V), σ' = [some (.ref R.p), some (.ref lc), o2, o3, none] ∧ xs.length + m ≤ 9 ∧ Kp R.p H H' ∧ RdAt C H' R r' 60 ∧ H' lc = some (.lst xs) ∧ PostU TE R H (prog R.sz m r') Q E
end
theorem scProg : FnScope ["self", "operations", "name", "given", "expression"] ["self"] (defScope (meS 8)) := ⟨rfl, rfl, rfl, by decide +kernel, rfl, by decide +kernel, by decide +kernel⟩
theorem ok_prog (M : Small P w K mg base C TE) (mt : mg "tuple" = none) (F : MTx K C 8 "program" "Reader.program" ["self"]) (NT' : NOk P w K mg base C TE "plain_type" .ty GF) (NE : NOk P w K mg base C TE "expression" .expr GF) : MOk P w K mg base C (L2.CX P w) (GF + 7) "program" ["self"] (spProg TE C) := by
  obtain ⟨f, fd, m, b, F⟩ := F
  obtain ⟨f2, fd2, m2, b2, G2⟩ := M.skips
  obtain ⟨f4, fd4, m4, b4, G4⟩ := M.skip
  obtain ⟨f6, fd6, m6, b6, G6⟩ := M.take
  obtain ⟨f9, fd9, m9, b9, G9⟩ := M.fail
  obtain ⟨fT, fdT, mT, bT, GT⟩ := NT'
  obtain ⟨fE, fdE, mE, bE, GE⟩ := NE
  have T := M.T
  refine ⟨f, fd, m, b, F.okX scProg (fun vs H Q E h => ?_) (fun cdv A outer s H vs Q E hr h => ?_)⟩
  · obtain ⟨R, r, gg, rfl, _⟩ := h
    rfl
  obtain ⟨R, r, gg, rfl, hg, hR, q⟩ := h
  refine ⟨_, (pss_cons (ps_set (i := 1) scProg.nd rfl (Or.inl rfl) (pe_lst pa_nil))
    (pss_cons (ps_while (passes_of rfl) (pt_val (pe_meth (pv 0) T.cl m2 G2 (hr.mono (by omega)) b2 .nil pass0 (pa_cons pe_str pa_nil))) (pss_cons (ps_set (i := 2) scProg.nd rfl (Or.inl rfl) (pe_meth (pv 0) T.cl m6 G6 (hr.mono (by omega)) b6 .nil (passes_call (takes_of rfl rfl rfl rfl) fun _ _ _ _ h => h) (pa_cons pe_str pa_nil)))
    (pss_cons (ps_expr (pe_meth (pv 0) T.cl m4 G4 (hr.mono (by omega)) b4 .nil (passes_call (takes_of rfl rfl rfl rfl) fun _ _ _ _ h => h) (pa_cons pe_str pa_nil)))
    (pss_cons (ps_set (i := 3) scProg.nd rfl (Or.inl rfl) (pe_ix ix_tup (pe_meth0 (pv 0) T.cl mT GT (hr.mono (by omega)) bT .nil (passes_call (takes_of rfl rfl rfl rfl) fun _ _ _ _ h => h)) pe_int (fun _ _ => rfl)))
    (pss_cons (ps_expr (pe_meth (pv 0) T.cl m4 G4 (hr.mono (by omega)) b4 .nil (passes_call (takes_of rfl rfl rfl rfl) fun _ _ _ _ h => h) (pa_cons pe_str pa_nil)))
    (pss_cons (ps_expr (pe_bm PySem.F.plainAttrs_list PySem.F.slot_list_append PySem.F.type_list_append mt_append (pv 1) (pa_cons (pe_tup (pa_cons (pv 2) (pa_cons (pv 3) (pa_cons (pe_ix ix_tup (pe_meth0 (pv 0) T.cl mT GT (hr.mono (by omega)) bT .nil (passes_call (takes_of rfl rfl rfl rfl) fun _ _ _ _ h => h)) pe_int (fun _ _ => rfl)) pa_nil)))) pa_nil)))
    (pss_one (ps_expr (pe_meth (pv 0) T.cl m4 G4 (hr.mono (by omega)) b4 .nil (passes_call (takes_of rfl rfl rfl rfl) fun _ _ _ _ h => h) (pa_cons pe_str pa_nil))))))))))
    (pss_cons (ps_set (i := 4) scProg.nd rfl (Or.inl rfl) (pe_ix ix_tup (pe_meth0 (pv 0) T.cl mE GE (hr.mono (by omega)) bE .nil (passes_call (takes_of rfl rfl rfl rfl) fun _ _ _ _ h => h)) pe_int (fun _ _ => rfl)))
    (pss_cons (ps_if (pt_cmpR op_lt (pe_fld (pv 0) rfl) (pe_callB call_len_seq (by rfl) T.len PySem.boot_len (pa_cons (pe_fld (pv 0) rfl) pa_nil)) (nomark _)) (pss_one (ps_expr (pe_meth0 (pv 0) T.cl m9 G9 (hr.mono (by omega)) b9 .nil (passes_call (takes_of rfl rfl rfl rfl) fun _ _ _ _ h => h)))) pss_nil)
    (pss_one (ps_ret (pe_tup (pa_cons pe_str (pa_cons (pe_callTy call_tuple_of (by rfl) mt (by decide +kernel) (pa_cons (pv 1) pa_nil)) (pa_cons (pv 4) pa_nil)))))))))), ?_⟩
  refine ⟨(by show 0 ≤ sizeLine; decide), fun lc hlc => ?_⟩
  have s0 := same_new hlc (.lst [])
  have ntl : lc ≠ R.tl := by
    obtain ⟨as, z, _⟩ := hR.tok.lst
    intro e
    rw [e, z] at hlc
    cases hlc
  refine ⟨PInv TE C R H Q E lc, ⟨gg, [], r, none, none, rfl, by simpa using hg, .same s0, hR.same s0, upd_same, q⟩, ?_⟩
  rintro mm σ' L ⟨xs, r', o2, o3, rfl, hm, k1, R1, hl, q⟩
  obtain ⟨m0, rfl⟩ := fuel_posU q
  refine ⟨_, rfl, g_meth R1 no_skips ?_⟩
  simp only [Afd.prog] at q
  refine do_skips (H := H) z_effect R1 k1 (fun c L2 k2 R2 f2 => ⟨_, rfl, iteT ?_⟩) (fun c L2 k2 R2 f2 => ⟨_, rfl, iteF ?_⟩)
  · rw [if_pos c] at q
    refine ⟨fun σ' H' => ∃ m', m' < m0 + 1 ∧ PInv TE C R H Q E lc m' σ' H', fun _ _ h => h, ?_⟩
    have l2 := f2 _ _ (lst_ne R1 hl) hl
    refine ⟨_, rfl, g_meth R2 no_take ?_⟩
    refine dou_take z_name R2 k2 q (fun q t1 ht1 L3 k3 R3 f3 => ?_)
    have l3 := f3 _ _ (lst_ne R2 l2) l2
    refine ⟨_, rfl, g_meth R3 no_skip ?_⟩
    refine dou_skip z_sCol R3 k3 q (fun q L4 k4 R4 f4 => ?_)
    have l4 := f4 _ _ (lst_ne R3 l3) l3
    refine ⟨_, rfl, g_meth R4 no_ty ?_⟩
    refine dou_sub R4 k4 q (fun x q L5 q5 u5 k5 R5 h5 f5 => ?_)
    have l5 := f5 _ _ (lst_ne R4 l4) l4
    refine ⟨q5, _, 0, _, rfl, rfl, SqT.of h5, ix0, ?_⟩
    refine ⟨_, rfl, g_meth R5 no_skip ?_⟩
    refine dou_skip z_sArr R5 k5 q (fun q L6 k6 R6 f6 => ?_)
    have l6 := f6 _ _ (lst_ne R5 l5) l5
    refine ⟨_, rfl, .inl ⟨rfl, _, SqL.of l6⟩, ?_⟩
    refine ⟨_, rfl, _, rfl, _, rfl, g_meth R6 no_ty ?_⟩
    refine dou_sub R6 k6 q (fun y q L7 q7 u7 k7 R7 h7 f7 => ?_)
    have l7 := f7 _ _ (lst_ne R6 l6) l6
    refine ⟨q7, _, 0, _, rfl, rfl, SqT.of h7, ix0, ?_⟩
    refine ⟨(by show 3 ≤ sizeLine; decide), fun p hp => ?_⟩
    have s7 := same_new hp (.tup [vV t1, u5, u7])
    refine ⟨lc, xs, _, rfl, rfl, s7 _ _ l7, (by show _ < _; rw [sizeLine_eq]; omega), ?_⟩
    have hlcH : H lc = none := hlc
    have k8 : Kp R.p H (upd (upd L7 p (.tup [vV t1, u5, u7])) lc (.lst (xs ++ [.ref p]))) := fun b o n e => by
      have nb : b ≠ lc := fun z => by rw [z, hlcH] at e; cases e
      rw [upd_ne nb]
      exact s7 _ _ (k7 b o n e)
    have R8 := (R7.same s7).put (ys := xs ++ [.ref p]) ntl (s7 _ _ l7)
    refine ⟨_, rfl, g_meth R8 no_skip ?_⟩
    refine dou_skip z_sSem R8 k8 q (fun q L9 k9 R9 f9 => ?_)
    have l9 := f9 _ _ (lst_ne R8 upd_same) upd_same
    exact ⟨m0, Nat.lt_succ_self _, _, _, _, _, rfl, (by rw [List.length_append]; show xs.length + 1 + m0 ≤ 9; omega), k9, R9, l9, q⟩
  · rw [if_neg (by rw [c]; decide)] at q
    have l2 := f2 _ _ (lst_ne R1 hl) hl
    refine ⟨_, rfl, g_meth R2 no_expr ?_⟩
    refine dou_sub R2 k2 q (fun x q L3 q3 u3 k3 R3 h3 f3 => ?_)
    have l3 := f3 _ _ (lst_ne R2 l2) l2
    refine ⟨q3, _, 0, _, rfl, rfl, SqT.of h3, ix0, ?_⟩
    refine ⟨_, rfl, g_at T R3 ?_⟩
    refine ⟨_, rfl, g_tokens T R3 ?_⟩
    refine g_len R3 fun ys hy => ?_
    refine ⟨_, _, rfl, rfl, _, rfl, ?_⟩
    rw [hy]
    show if decide (((R.ts.length - x.2.length : Nat) : Int) < (R.ts.length : Int)) = true then _ else _
    rw [at_more R3]
    by_cases hx : x.2 = []
    · rw [if_pos hx] at q
      refine if_not_t (decide_eq_true hx) ?_
      refine ⟨_, rfl, lc, xs, rfl, .inl ⟨SqL.of l3, fun p2 hp2 => ?_⟩⟩
      have s2 := same_new hp2 (.tup xs)
      refine ⟨_, rfl, (by show 3 ≤ sizeLine; decide), fun p3 hp3 => ?_⟩
      exact q _ _ (k3.trans (.same (s2.trans (same_new hp3 _))))
    · rw [if_neg hx] at q
      refine if_not_f (decide_eq_false hx) ?_
      refine ⟨_, rfl, g_meth R3 no_fail ?_⟩
      exact ⟨R, x.2, 60, rfl, R3, q.fail.kp k3⟩
end
end Af

/-! W10: the tokens. -/
namespace Af
open PySem PySem.Spec PyProof.Rows L2 Afd
section
variable {P : Program} {w : World} {K : PySem.W.Frag} {mg : Str → Option Value} {base : Heap} {C : Addr} {TE : ETx P K mg}
/-- the run of signs at a place -/
abbrev runN (al cs : Cs) (p : Nat) : Nat := p + ((cs.drop p).takeWhile fun c => decide (c ∈ al)).length
structure spRun (vs : List V) (H : Hp) (Q : VK) (E : XK) : Prop where
  ex : ∃ (cs al : Cs) (p : Nat), vs = [.str (S cs), .int (p : Int), .str (S al)] ∧ cs.length ≤ 10000 ∧ p ≤ cs.length ∧ Q (.int ((runN al cs p : Nat) : Int)) H
theorem S_len (cs : Cs) : (S cs).length = cs.length := List.size_toArray ..
theorem line_of {n : Nat} (h : n ≤ 10000) : n ≤ sizeLine := by rw [sizeLine_eq]; omega
theorem drop_cons {cs : Cs} {p : Nat} (h : p < cs.length) : cs.drop p = cs[p] :: cs.drop (p + 1) := (List.drop_eq_getElem_cons h)
def RunInv (cs al : Cs) (p : Nat) (H : Hp) (m : Nat) (σ' : L2.St) (H' : Hp) : Prop :=
  ∃ p' : Nat, σ' = [some (.str (S cs)), some (.int (p' : Int)), some (.str (S al))] ∧ H' = H ∧ m = cs.length - p' ∧ p' ≤ cs.length ∧ runN al cs p' = runN al cs p
theorem scRun : FnScope ["text", "at", "allowed"] ["text", "at", "allowed"] (defScope (topS 16)) := ⟨rfl, rfl, rfl, by decide +kernel, rfl, by decide +kernel, by decide +kernel⟩
theorem ok_run (ml : mg "len" = none) (F : GTx K mg 16 "run_end" ["text", "at", "allowed"]) : GOk P w K mg base CX0 1 "run_end" ["text", "at", "allowed"] [] spRun := by
  obtain ⟨f, fd, m, b, F⟩ := F
  refine ⟨f, fd, m, F.kp, b, F.ok scRun (fun vs H Q E h => ?_) (fun cdv A outer s H vs Q E hr h => ?_)⟩
  · obtain ⟨cs, al, p, rfl, _⟩ := h
    rfl
  obtain ⟨cs, al, p, rfl, hc, hp, q⟩ := h
  refine ⟨_, pss_cons (ps_while PassesOwn.never (PW.pt (pw_and (pt_cmpR op_lt (pv 1) (pe_callB call_len_str (by rfl) ml PySem.boot_len (pa_cons (pv 0) pa_nil)) (nomark _))
      (pw_and1 (pt_cmpR op_in_sign (pe_ix ix_str (pv 0) (pv 1) (fun _ _ => rfl)) (pv 2) (by rfl))))) (pss_one (ps_aug (i := 1) scRun.nd rfl (Or.inl rfl) pe_int ip_add)))
    (pss_one (ps_ret (pv 1))), ?_⟩
  refine ⟨RunInv cs al p H, ⟨_, p, rfl, rfl, rfl, hp, rfl⟩, ?_⟩
  rintro mm σ' H' ⟨p', rfl, rfl, rfl, hp', he⟩
  refine ⟨_, rfl, _, rfl, S cs, rfl, line_of (by rw [S_len]; exact hc), ?_⟩
  refine ⟨_, _, rfl, rfl, _, rfl, ?_⟩
  rw [S_len]
  by_cases hlt : p' < cs.length
  · refine if_t (decide_eq_true (by omega)) ?_
    refine ⟨_, rfl, _, rfl, S cs, _, cs[p'], rfl, rfl, line_of (by rw [S_len]; exact hc), atI_nat (by simp [hlt]), ?_⟩
    refine ⟨_, rfl, cs[p'], S al, rfl, rfl, _, rfl, ?_⟩
    show if decide (cs[p'] ∈ al) = true then _ else _
    by_cases hin : cs[p'] ∈ al
    · refine if_t (decide_eq_true hin) ?_
      refine ⟨fun σ1 H1 => ∃ m', m' < cs.length - p' ∧ RunInv cs al p H' m' σ1 H1, fun _ _ h => h, ?_⟩
      refine ⟨_, rfl, _, _, rfl, rfl, ?_⟩
      refine ⟨_, ?_, p' + 1, rfl, rfl, rfl, by omega, ?_⟩
      · omega
      · rw [← he]
        show p' + 1 + _ = p' + _
        rw [drop_cons hlt, List.takeWhile_cons, if_pos (decide_eq_true hin), List.length_cons]
        omega
    · refine if_f (decide_eq_false hin) ?_
      refine ⟨_, rfl, ?_⟩
      have : runN al cs p' = p' := by
        show p' + _ = p'
        rw [drop_cons hlt, List.takeWhile_cons, if_neg (by simpa using hin)]
        rfl
      rw [← he, this] at q
      exact q
  · refine if_f (decide_eq_false (by omega)) ?_
    refine ⟨_, rfl, ?_⟩
    have : runN al cs p' = p' := by
      show p' + _ = p'
      rw [List.drop_eq_nil_of_le (by omega)]
      rfl
    rw [← he, this] at q
    exact q
end
end Af

/-! W11: words, numbers. -/
namespace Af
open PySem PySem.Spec PyProof.Rows L2 Afd
def letL : Cs := List.range' 97 26
def digL : Cs := List.range' 48 10
def nmL : Cs := letL ++ digL ++ [95]
theorem isLet_in (c : Nat) : decide (c ∈ letL) = isLet c := by
  rw [Bool.eq_iff_iff]
  simp only [letL, isLet, decide_eq_true_eq, List.mem_range'_1, Bool.and_eq_true]
  omega
theorem isDig_in (c : Nat) : decide (c ∈ digL) = isDig c := by
  rw [Bool.eq_iff_iff]
  simp only [digL, isDig, decide_eq_true_eq, List.mem_range'_1, Bool.and_eq_true]
  omega
theorem isNm_in (c : Nat) : decide (c ∈ nmL) = isNm c := by
  unfold isNm
  rw [← isLet_in, ← isDig_in, Bool.eq_iff_iff]
  simp only [nmL, decide_eq_true_eq, List.mem_append, List.mem_singleton, Bool.or_eq_true, beq_iff_eq]
/-- a tuple of the written part -/
def TupK (K : PySem.W.Frag) (a : Addr) (xs : List V) : Prop := ∃ (o : Obj) (its : Array Value) (n : Nat), K.lookup a = some o ∧ o.cls = .type "tuple" ∧ o.data = .seq its n ∧ its.size ≤ sizeLine ∧ Vals xs its.toList
theorem TupK.sq {K : PySem.W.Frag} {a : Addr} {xs : List V} (h : TupK K a xs) (H : Hp) : SqT K H a xs := by
  obtain ⟨o, its, n, h1, h2, h3, h4, h5⟩ := h
  exact .inr ⟨o, its, n, h1, h2, h3, h4, h5⟩
structure KTx (K : PySem.W.Frag) (mg : Str → Option Value) where
  aW : Addr
  aL : Addr
  t1 : PySem.Tok
  t2 : PySem.Tok
  t3 : PySem.Tok
  t4 : PySem.Tok
  t5 : PySem.Tok
  t6 : PySem.Tok
  gW : mg "WORDS" = some (.ref aW)
  kW : TupK K aW (words.map fun w => .str (S w))
  gL : mg "LONG_SIGNS" = some (.ref aL)
  kL : TupK K aL (longs.map fun w => .str (S w))
  gLet : mg "LETTERS" = some (.str (S letL) t1)
  gDig : mg "DIGITS" = some (.str (S digL) t2)
  gSig : mg "SIGNS" = some (.str (S signs) t3)
  gT : mg "MOST_TEXT" = some (.int 10000 t4)
  gN : mg "MOST_NAME" = some (.int 20 t5)
  gE : mg "NUMBERS_END" = some (.int 2147483648 t6)
  len : mg "len" = none
  int : mg "int" = none
theorem inV_S (v : Cs) (ws : List Cs) : inV (.str (S v)) (ws.map fun w => .str (S w)) = ws.contains v := by
  unfold inV
  induction ws with
  | nil => rfl
  | cons a r ih =>
    rw [List.map_cons, List.any_cons, ih, List.contains_cons]
    congr 1
    show (S a == S v) = (v == a)
    by_cases h : v = a
    · subst h; simp
    · have : ¬ S a = S v := fun z => h (S_eq.mp z).symm
      rw [beq_eq_false_iff_ne.mpr this, beq_eq_false_iff_ne.mpr h]
theorem flat_S (ws : List Cs) : (ws.map fun w => V.str (S w)).all flatV = true := by
  rw [List.all_eq_true]
  intro x hx
  obtain ⟨w, _, rfl⟩ := List.mem_map.mp hx
  rfl
theorem cutS_S {cs : Cs} {p q : Nat} (hp : p ≤ cs.length) (hq : q ≤ cs.length) : cutS (S cs) (some (p : Int)) (some (q : Int)) = S ((cs.drop p).take (q - p)) := by
  have e1 : HT.sIx (S cs).length 0 (some (p : Int)) = p := by
    show (if (p : Int) < 0 then ((p : Int) + ((S cs).length : Nat)).toNat else min (p : Int).toNat (S cs).length) = p
    rw [if_neg (by omega), S_len, Int.toNat_natCast]
    omega
  have e2 : HT.sIx (S cs).length (S cs).length (some (q : Int)) = q := by
    show (if (q : Int) < 0 then ((q : Int) + ((S cs).length : Nat)).toNat else min (q : Int).toNat (S cs).length) = q
    rw [if_neg (by omega), S_len, Int.toNat_natCast]
    omega
  unfold cutS
  rw [e1, e2]
theorem take_while {f : Nat → Bool} (l : Cs) : l.take (l.takeWhile f).length = l.takeWhile f := ((List.prefix_iff_eq_take.mp (List.takeWhile_prefix f)).symm)
theorem run_le (al cs : Cs) (p : Nat) (hp : p ≤ cs.length) : runN al cs p ≤ cs.length := by
  show p + _ ≤ _
  have h := (List.takeWhile_prefix (p := fun c => decide (c ∈ al)) (l := cs.drop p)).length_le
  rw [List.length_drop] at h
  omega
theorem run_cut (al cs : Cs) (p : Nat) (hp : p ≤ cs.length) : cutS (S cs) (some (p : Int)) (some ((runN al cs p : Nat) : Int)) = S ((cs.drop p).takeWhile fun c => decide (c ∈ al)) := by
  rw [cutS_S hp (run_le al cs p hp), show runN al cs p - p = ((cs.drop p).takeWhile fun c => decide (c ∈ al)).length from Nat.add_sub_cancel_left _ _, take_while]
section
variable {P : Program} {w : World} {K : PySem.W.Frag} {mg : Str → Option Value} {base : Heap} {C : Addr} {TE : ETx P K mg}
structure spWord (TE : ETx P K mg) (vs : List V) (H : Hp) (Q : VK) (E : XK) : Prop where
  ex : ∃ (cs : Cs) (p : Nat), vs = [.str (S cs), .int (p : Int)] ∧ cs.length ≤ 10000 ∧ p ≤ cs.length ∧ (∀ e, wordAt ((cs.drop p).takeWhile isNm) p = .bad e → ErrS TE H e E) ∧
    ∀ t n, wordAt ((cs.drop p).takeWhile isNm) p = .ok (t, n) → ∀ H' q, Same H H' → H' q = some (.tup (tokV t)) → Q (.ref q) H'
theorem scWord : FnScope ["text", "at", "word"] ["text", "at"] (defScope (topS 17)) := ⟨rfl, rfl, rfl, by decide +kernel, rfl, by decide +kernel, by decide +kernel⟩
theorem ok_word (c : KTx K mg) (GR : GOk P w K mg base CX0 1 "run_end" ["text", "at", "allowed"] [] spRun) (F : GTx K mg 17 "word_token" ["text", "at"]) : GOk P w K mg base (L2.CX P w) 2 "word_token" ["text", "at"] [] (spWord TE) := by
  obtain ⟨f, fd, m, b, F⟩ := F
  obtain ⟨f1, fd1, m1, k1, b1, G1⟩ := GR
  refine ⟨f, fd, m, F.kp, b, F.okX scWord (fun vs H Q E h => ?_) (fun cdv A outer s H vs Q E hr h => ?_)⟩
  · obtain ⟨cs, p, rfl, _⟩ := h
    rfl
  obtain ⟨cs, p, rfl, hc, hp, qb, qo⟩ := h
  refine ⟨_, pss_cons (ps_set (i := 2) scWord.nd rfl (Or.inl rfl) (pe_slice sl_str (pv 0) (po_some (pv 1)) (po_some (pe_call G1 (hr.mono (by omega)) (by rfl) m1 k1 b1 .nil pass0 (pa_cons (pv 0) (pa_cons (pv 1) (pa_cons
      (pe_op op_add_str (pe_op op_add_str (pe_glob (v := .str (S letL)) (by rfl) c.gLet ⟨_, rfl⟩) (pe_glob (v := .str (S digL)) (by rfl) c.gDig ⟨_, rfl⟩)) pe_str) pa_nil)))))))
    (pss_cons (ps_if (pt_cmpR op_in_seq (pv 2) (pe_glob (v := .ref c.aW) (by rfl) c.gW rfl) (by rfl)) (pss_one (ps_ret (pe_tup (pa_cons pe_str (pa_cons (pv 2) (pa_cons (pv 1) pa_nil)))))) pss_nil)
    (pss_cons (ps_if (pt_cmpR op_gt (pe_callB call_len_str (by rfl) c.len PySem.boot_len (pa_cons (pv 2) pa_nil)) (pe_glob (v := .int 20) (by rfl) c.gN ⟨_, rfl⟩) (nomark _)) (pss_one (ps_raiseErr rfl TE.mal (.inl rfl) hr (takes_of rfl rfl rfl rfl) (pa_cons (pv 1) pa_nil) (by rfl) (by decide))) pss_nil)
    (pss_one (ps_ret (pe_tup (pa_cons pe_str (pa_cons (pv 2) (pa_cons (pv 1) pa_nil)))))))), ?_⟩
  refine ⟨_, rfl, _, rfl, _, rfl, _, rfl, _, rfl, _, _, rfl, rfl, (by rw [sizeLine_eq]; decide), _, _, rfl, rfl, (by rw [sizeLine_eq]; decide), ?_⟩
  refine ⟨⟨cs, nmL, p, by rfl, hc, hp, ?_⟩⟩
  refine ⟨_, rfl, S cs, rfl, line_of (by rw [S_len]; exact hc), ?_⟩
  rw [run_cut nmL cs p hp]
  have e : (fun c => decide (c ∈ nmL)) = isNm := funext isNm_in
  rw [e]
  have hwl : ((cs.drop p).takeWhile isNm).length ≤ 10000 := by
    have h1 := (List.takeWhile_prefix (p := isNm) (l := cs.drop p)).length_le
    rw [List.length_drop] at h1
    omega
  generalize (cs.drop p).takeWhile isNm = wd at *
  unfold wordAt at qb qo
  refine ⟨_, rfl, c.aW, _, rfl, .inr (c.kW.sq _), rfl, flat_S _, _, rfl, ?_⟩
  show if inV (.str (S wd)) (words.map fun w => .str (S w)) = true then _ else _
  rw [inV_S]
  by_cases hw : words.contains wd = true
  · rw [if_pos hw] at qo
    refine if_t hw ?_
    refine ⟨_, rfl, _, rfl, (by show 3 ≤ sizeLine; decide), fun q hq => ?_⟩
    exact qo _ _ rfl _ q (same_new hq _) upd_same
  · rw [if_neg hw] at qo qb
    refine if_f (by simpa using hw) ?_
    refine ⟨_, rfl, S wd, rfl, line_of (by rw [S_len]; exact hwl), _, _, rfl, rfl, _, rfl, ?_⟩
    rw [S_len]
    by_cases hl : 20 < wd.length
    · rw [if_pos hl] at qb
      refine if_t (decide_eq_true (by omega)) ?_
      exact ⟨_, rfl, _, rfl, fun dd hd => qb _ rfl dd _ (same_new hd _) upd_same⟩
    · rw [if_neg hl] at qo
      refine if_f (decide_eq_false (by omega)) ?_
      refine ⟨_, rfl, _, rfl, (by show 3 ≤ sizeLine; decide), fun q hq => ?_⟩
      exact qo _ _ rfl _ q (same_new hq _) upd_same
/-! ### numbers -/
theorem bad_none {cs : Cs} {p : Nat} (h : ¬ p < cs.length) : cs.drop p = [] := List.drop_eq_nil_of_le (by omega)
theorem al_low : ∀ c, c < 128 → PySem.Unicode.isAlpha c = ((decide (65 ≤ c) && decide (c ≤ 90)) || isLet c) := by decide +kernel
theorem isAl_is (c : Nat) : Txt.isalpha ⟨#[c]⟩ = isAl c := by
  have : Txt.isalpha ⟨#[c]⟩ = PySem.Unicode.isAlpha c := by
    show (decide (0 < 1) && (#[c] : Array Nat).all PySem.Unicode.isAlpha) = _
    simp
  rw [this]
  unfold isAl
  split
  · rename_i h
    exact al_low c h
  · rfl
theorem dw_drop {f : Nat → Bool} (l : Cs) : l.drop (l.takeWhile f).length = l.dropWhile f := by
  induction l with
  | nil => rfl
  | cons a r ih =>
    rw [List.takeWhile_cons, List.dropWhile_cons]
    by_cases h : f a = true
    · rw [if_pos h, if_pos h]; exact ih
    · rw [if_neg h, if_neg h]; rfl
theorem ix0N {a : Nat} {r : Cs} : atI (a :: r) 0 = some a := atI_nat (xs := a :: r) (j := 0) rfl
theorem sgn_eq (z : Str) (k : Nat) (hz : z = ⟨#[k]⟩) (c : Nat) : decide (V.str ⟨#[c]⟩ = V.str z) = decide (c = k) := by
  subst hz
  by_cases h : c = k
  · subst h; simp
  · have : ¬ V.str ⟨#[c]⟩ = V.str ⟨#[k]⟩ := fun e => by
      injection e with e
      injection e with e
      exact h (by simpa using congrArg Array.toList e)
    rw [decide_eq_false h, decide_eq_false this]
structure spNum (TE : ETx P K mg) (vs : List V) (H : Hp) (Q : VK) (E : XK) : Prop where
  ex : ∃ (cs : Cs) (p : Nat), vs = [.str (S cs), .int (p : Int)] ∧ cs.length ≤ 10000 ∧ p ≤ cs.length ∧ (cs.drop p).takeWhile isDig ≠ [] ∧ (∀ e, numAt ((cs.drop p).takeWhile isDig) ((cs.drop p).dropWhile isDig) p = .bad e → ErrS TE H e E) ∧
    ∀ t n, numAt ((cs.drop p).takeWhile isDig) ((cs.drop p).dropWhile isDig) p = .ok (t, n) → ∀ H' a q, Same H H' → H' a = some (.tup (tokV t)) → H' q = some (.tup [.ref a, .int ((p + n : Nat) : Int)]) → Q (.ref q) H'
theorem scNum : FnScope ["text", "at", "end", "digits"] ["text", "at"] (defScope (topS 18)) := ⟨rfl, rfl, rfl, by decide +kernel, rfl, by decide +kernel, by decide +kernel⟩
theorem ok_num (c : KTx K mg) (GR : GOk P w K mg base CX0 1 "run_end" ["text", "at", "allowed"] [] spRun) (F : GTx K mg 18 "number_token" ["text", "at"]) : GOk P w K mg base (L2.CX P w) 2 "number_token" ["text", "at"] [] (spNum TE) := by
  obtain ⟨f, fd, m, b, F⟩ := F
  obtain ⟨f1, fd1, m1, k1, b1, G1⟩ := GR
  refine ⟨f, fd, m, F.kp, b, F.okX scNum (fun vs H Q E h => ?_) (fun cdv A outer s H vs Q E hr h => ?_)⟩
  · obtain ⟨cs, p, rfl, _⟩ := h
    rfl
  obtain ⟨cs, p, rfl, hc, hp, hne, qb, qo⟩ := h
  refine ⟨_, pss_cons (ps_set (i := 2) scNum.nd rfl (Or.inl rfl) (pe_call G1 (hr.mono (by omega)) (by rfl) m1 k1 b1 .nil pass0 (pa_cons (pv 0) (pa_cons (pv 1) (pa_cons (pe_glob (v := .str (S digL)) (by rfl) c.gDig ⟨_, rfl⟩) pa_nil)))))
    (pss_cons (ps_set (i := 3) scNum.nd rfl (Or.inl rfl) (pe_slice sl_str (pv 0) (po_some (pv 1)) (po_some (pv 2))))
    (C8.pss_cut (ps_if (PW.pt (pw_or (pt_cmpR op_gt (pe_callB call_len_str (by rfl) c.len PySem.boot_len (pa_cons (pv 3) pa_nil)) pe_int (nomark _))
        (pw_or1 (PW.pt (pw_and (pt_cmpR op_eq (pe_ix ix_str (pv 3) pe_int (fun _ _ => rfl)) pe_str (nomark _)) (pw_and1 (pt_cmpR op_gt (pe_callB call_len_str (by rfl) c.len PySem.boot_len (pa_cons (pv 3) pa_nil)) pe_int (nomark _))))))))
      (pss_one (ps_raiseErr rfl TE.mal (.inl rfl) hr (takes_of rfl rfl rfl rfl) (pa_cons (pv 1) pa_nil) (by rfl) (by decide))) pss_nil)
    (C8.pss_cut (ps_if (PW.pt (pw_and (pt_cmpR op_lt (pv 2) (pe_callB call_len_str (by rfl) c.len PySem.boot_len (pa_cons (pv 0) pa_nil)) (nomark _))
        (pw_and1 (PW.pt (pw_or (pt_val (pe_bm0 PySem.F.plainAttrs_str PySem.F.slot_str_isalpha PySem.F.type_str_isalpha mt_isalpha (pe_ix ix_str (pv 0) (pv 2) (fun _ _ => rfl)))) (pw_or1 (pt_cmpR op_eq (pe_ix ix_str (pv 0) (pv 2) (fun _ _ => rfl)) pe_str (nomark _))))))))
      (pss_one (ps_raiseErr rfl TE.mal (.inl rfl) hr (takes_of rfl rfl rfl rfl) (pa_cons (pv 1) pa_nil) (by rfl) (by decide))) pss_nil)
    (pss_cons (ps_if (pt_cmpR op_ge (pe_callTy call_int_str (by rfl) c.int (by decide +kernel) (pa_cons (pv 3) pa_nil)) (pe_glob (v := .int 2147483648) (by rfl) c.gE ⟨_, rfl⟩) (nomark _))
      (pss_one (ps_raiseErr rfl TE.mal (.inl rfl) hr (takes_of rfl rfl rfl rfl) (pa_cons (pv 1) pa_nil) (by rfl) (by decide))) pss_nil)
    (pss_one (ps_ret (pe_tup (pa_cons (pe_tup (pa_cons pe_str (pa_cons (pe_callTy call_int_str (by rfl) c.int (by decide +kernel) (pa_cons (pv 3) pa_nil)) (pa_cons (pv 1) pa_nil)))) (pa_cons (pv 2) pa_nil))))))))), ?_⟩
  refine ⟨_, rfl, _, rfl, ⟨⟨cs, digL, p, by rfl, hc, hp, ?_⟩⟩⟩
  have e : (fun c => decide (c ∈ digL)) = isDig := funext isDig_in
  refine ⟨_, rfl, _, rfl, _, rfl, _, rfl, _, rfl, S cs, rfl, line_of (by rw [S_len]; exact hc), ?_⟩
  rw [run_cut digL cs p hp]
  have hre := run_le digL cs p hp
  have hrd : cs.drop (runN digL cs p) = (cs.drop p).dropWhile isDig := by
    show cs.drop (p + _) = _
    rw [← List.drop_drop, e, dw_drop]
  have hrn : runN digL cs p = p + ((cs.drop p).takeWhile isDig).length := by
    show p + _ = _
    rw [e]
  rw [e]
  have hdd : ∀ c ∈ (cs.drop p).takeWhile isDig, isDig c = true := fun c hc => (List.all_eq_true.mp (List.all_takeWhile (l := cs.drop p))) c hc
  generalize runN digL cs p = en at *
  generalize (cs.drop p).takeWhile isDig = ds at *
  generalize (cs.drop p).dropWhile isDig = rest at *
  clear e
  subst hrn
  have hl1 : ds.length ≤ 10000 := by omega
  obtain ⟨c0, ds', rfl⟩ : ∃ c0 ds', ds = c0 :: ds' := by
    cases ds with
    | nil => exact absurd rfl hne
    | cons a r => exact ⟨a, r, rfl⟩
  have h0 : atI (S (c0 :: ds')).cps.toList 0 = some c0 := ix0N
  unfold Afd.numAt at qb qo
  have bad : ∀ (h : (10 < (c0 :: ds').length ∨ ((c0 :: ds').head? = some 48 ∧ 1 < (c0 :: ds').length))), ErrS TE H (.mal p) E := fun h => qb _ (if_pos h)
  refine ⟨fun σ' H' => σ' = [some (.str (S cs)), some (.int (p : Int)), some (.int ((p + (c0 :: ds').length : Nat) : Int)), some (.str (S (c0 :: ds')))] ∧ H' = H ∧ ¬ (10 < (c0 :: ds').length ∨ ((c0 :: ds').head? = some 48 ∧ 1 < (c0 :: ds').length)), ?_, ?_⟩
  · refine ⟨_, rfl, S (c0 :: ds'), rfl, line_of (by rw [S_len]; exact hl1), _, _, rfl, rfl, _, rfl, ?_⟩
    rw [S_len]
    by_cases c1 : 10 < (c0 :: ds').length
    · refine if_t (decide_eq_true (by omega)) (iteT ?_)
      exact ⟨_, rfl, _, rfl, fun dd hd => bad (.inl c1) dd _ (same_new hd _) upd_same⟩
    refine if_f (decide_eq_false (by omega)) ?_
    refine ⟨_, rfl, S (c0 :: ds'), 0, c0, rfl, rfl, line_of (by rw [S_len]; exact hl1), h0, rfl, _, rfl, ?_⟩
    rw [sgn_eq "0" 48 rfl]
    by_cases c2 : c0 = 48
    · refine if_t (decide_eq_true c2) ?_
      refine ⟨_, rfl, S (c0 :: ds'), rfl, line_of (by rw [S_len]; exact hl1), _, _, rfl, rfl, _, rfl, ?_⟩
      rw [S_len]
      by_cases c3 : 1 < (c0 :: ds').length
      · refine if_t (decide_eq_true (by omega)) ?_
        exact ⟨_, rfl, _, rfl, fun dd hd => bad (.inr ⟨by rw [c2]; rfl, c3⟩) dd _ (same_new hd _) upd_same⟩
      · refine if_f (decide_eq_false (by omega)) ?_
        exact ⟨rfl, rfl, fun z => z.elim c1 fun z => c3 z.2⟩
    · refine if_f (decide_eq_false c2) ?_
      refine iteF ?_
      exact ⟨rfl, rfl, fun z => z.elim c1 fun z => c2 (Option.some.inj z.1)⟩
  rintro σ' H1 ⟨rfl, rfl, hg⟩
  rw [if_neg hg] at qo
  have qb : ∀ e, _ = Out.bad e → _ := fun e h => qb e (by rw [if_neg hg]; exact h)
  refine ⟨fun σ' H' => σ' = [some (.str (S cs)), some (.int (p : Int)), some (.int ((p + (c0 :: ds').length : Nat) : Int)), some (.str (S (c0 :: ds')))] ∧ H' = H1 ∧ ¬ (badNext rest = true), ?_, ?_⟩
  · have bad2 : ∀ (h : badNext rest = true), ErrS TE H1 (.mal p) E := fun h => qb _ (if_pos h)
    refine ⟨_, rfl, _, rfl, S cs, rfl, line_of (by rw [S_len]; exact hc), _, _, rfl, rfl, _, rfl, ?_⟩
    rw [S_len]
    cases rest with
    | nil =>
      have hz : cs.length ≤ p + (c0 :: ds').length := List.drop_eq_nil_iff.mp hrd
      refine if_f (decide_eq_false (by omega)) (iteF ?_)
      exact ⟨rfl, rfl, by decide⟩
    | cons c1 rest =>
      have hz : p + (c0 :: ds').length < cs.length := by
        apply Classical.byContradiction
        intro z
        rw [List.drop_eq_nil_of_le (by omega)] at hrd
        cases hrd
      have he : cs[p + (c0 :: ds').length]? = some c1 := by
        have z := congrArg List.head? hrd
        rw [List.head?_drop] at z
        exact z
      refine if_t (decide_eq_true (by omega)) ?_
      refine ⟨_, rfl, _, rfl, S cs, _, c1, rfl, rfl, line_of (by rw [S_len]; exact hc), atI_nat (by simpa using he), ?_⟩
      refine ⟨rfl, _, rfl, rfl, trivial, _, rfl, ?_⟩
      rw [isAl_is]
      by_cases c5 : isAl c1 = true
      · refine if_t c5 (iteT ?_)
        exact ⟨_, rfl, _, rfl, fun dd hd => bad2 (by show (isAl c1 || c1 == 95) = true; rw [c5]; rfl) dd _ (same_new hd _) upd_same⟩
      · have c5' : isAl c1 = false := by simpa using c5
        refine if_f c5' ?_
        refine ⟨_, rfl, _, rfl, S cs, _, c1, rfl, rfl, line_of (by rw [S_len]; exact hc), atI_nat (by simpa using he), rfl, _, rfl, ?_⟩
        rw [sgn_eq "_" 95 rfl]
        by_cases c6 : c1 = 95
        · refine if_t (decide_eq_true c6) ?_
          exact ⟨_, rfl, _, rfl, fun dd hd => bad2 (by show (isAl c1 || c1 == 95) = true; rw [c6, Bool.or_comm]; rfl) dd _ (same_new hd _) upd_same⟩
        · refine if_f (decide_eq_false c6) ?_
          exact ⟨rfl, rfl, by show ¬ (isAl c1 || c1 == 95) = true; rw [c5']; simpa using c6⟩
  rintro σ' H2 ⟨rfl, rfl, hg2⟩
  rw [if_neg hg2] at qo
  have qb : ∀ e, _ = Out.bad e → _ := fun e h => qb e (by rw [if_neg hg2]; exact h)
  have hint : PySem.intText? (S (c0 :: ds')) = some ((dv (c0 :: ds') : Nat) : Int) := PySem.intText_digits (x := S (c0 :: ds')) (fun c hc => by
    have z := hdd c (by simpa using hc)
    simpa [isDig] using z) (by simp) (by rw [S_len]; omega)
  have hg10 : (c0 :: ds').length ≤ 10 := by omega
  refine ⟨_, rfl, S (c0 :: ds'), _, rfl, hint, (by rw [S_len]; omega), _, _, rfl, rfl, _, rfl, ?_⟩
  by_cases c4 : 2147483648 ≤ dv (c0 :: ds')
  · refine if_t (decide_eq_true (by omega)) ?_
    exact ⟨_, rfl, _, rfl, fun dd hd => qb _ (if_pos c4) dd _ (same_new hd _) upd_same⟩
  · refine if_f (decide_eq_false (by omega)) ?_
    rw [if_neg c4] at qo
    refine ⟨_, rfl, S (c0 :: ds'), _, rfl, hint, (by rw [S_len]; omega), _, rfl, (by show 3 ≤ sizeLine; decide), fun p1 hp1 => ?_⟩
    refine ⟨_, rfl, (by show 2 ≤ sizeLine; decide), fun p2 hp2 => ?_⟩
    exact qo _ _ rfl _ p1 p2 ((same_new hp1 _).trans (same_new hp2 _)) (same_new hp2 _ _ _ upd_same) upd_same
end
end Af

/-! W12: a token, all tokens. -/
namespace Af
open PySem PySem.Spec PyProof.Rows L2 Afd
theorem cutS_two {cs : Cs} {p : Nat} (hp : p ≤ cs.length) : cutS (S cs) (some (p : Int)) (some ((p : Int) + 2)) = S ((cs.drop p).take 2) := by
  have e1 : HT.sIx (S cs).length 0 (some (p : Int)) = p := by
    show (if (p : Int) < 0 then ((p : Int) + ((S cs).length : Nat)).toNat else min (p : Int).toNat (S cs).length) = p
    rw [if_neg (by omega), S_len, Int.toNat_natCast]
    omega
  have e2 : HT.sIx (S cs).length (S cs).length (some ((p : Int) + 2)) = min (p + 2) cs.length := by
    show (if (p : Int) + 2 < 0 then ((p : Int) + 2 + ((S cs).length : Nat)).toNat else min ((p : Int) + 2).toNat (S cs).length) = _
    rw [if_neg (by omega), S_len]
    omega
  unfold cutS
  rw [e1, e2]
  congr 2
  have hd : (cs.drop p).length = cs.length - p := List.length_drop
  by_cases h : p + 2 ≤ cs.length
  · rw [show min (p + 2) cs.length - p = 2 by omega]
  · rw [show min (p + 2) cs.length - p = (cs.drop p).length by omega, List.take_length, List.take_of_length_le (by omega)]
theorem word_ok {w : Cs} {p n : Nat} {t : Tk} (h : wordAt w p = .ok (t, n)) : n = w.length ∧ vV t = .str (S w) ∧ (t.k = .word → words.contains t.s = true) := by
  unfold wordAt at h
  split at h
  · rename_i hw
    injection h with h
    injection h with h1 h2
    subst h1; subst h2
    exact ⟨rfl, rfl, fun _ => hw⟩
  · split at h
    · cases h
    · injection h with h
      injection h with h1 h2
      subst h1; subst h2
      exact ⟨rfl, rfl, fun z => by cases z⟩
theorem num_ok {ds rest : Cs} {p n : Nat} {t : Tk} (h : Afd.numAt ds rest p = .ok (t, n)) : n = ds.length ∧ t.k = .num := by
  unfold Afd.numAt at h
  split at h
  · cases h
  · split at h
    · cases h
    · split at h
      · cases h
      · injection h with h
        injection h with h1 h2
        subst h1; subst h2
        exact ⟨rfl, rfl⟩
theorem tw_le {f : Nat → Bool} (l : Cs) : (l.takeWhile f).length ≤ l.length := (List.takeWhile_prefix f).length_le
theorem tw_pos {f : Nat → Bool} {c : Nat} {l : Cs} (h : f c = true) : 1 ≤ ((c :: l).takeWhile f).length := by
  rw [List.takeWhile_cons, if_pos h, List.length_cons]
  omega
theorem tok_ok {c : Nat} {cs : Cs} {p n : Nat} {t : Tk} (h : tokenAt c cs p = .ok (t, n)) : 1 ≤ n ∧ n ≤ (c :: cs).length ∧ (t.k = .word → words.contains t.s = true) := by
  unfold tokenAt at h
  split at h
  · rename_i hc
    obtain ⟨h1, _, h3⟩ := word_ok h
    rw [h1]
    exact ⟨tw_pos (by unfold isNm; rw [hc]; rfl), tw_le _, h3⟩
  · split at h
    · rename_i hc
      obtain ⟨h1, h2⟩ := num_ok h
      rw [h1]
      exact ⟨tw_pos hc, tw_le _, fun z => by rw [h2] at z; cases z⟩
    · split at h
      · rename_i hc
        injection h with h
        injection h with h1 h2
        subst h1; subst h2
        refine ⟨by decide, ?_, fun z => by cases z⟩
        cases cs with
        | nil =>
          exfalso
          simp [longs] at hc
        | cons a r => show 2 ≤ r.length + 1 + 1; omega
      · split at h
        · injection h with h
          injection h with h1 h2
          subst h1; subst h2
          exact ⟨by decide, by show 1 ≤ cs.length + 1; omega, fun z => by cases z⟩
        · cases h
section
variable {P : Program} {w : World} {K : PySem.W.Frag} {mg : Str → Option Value} {base : Heap} {C : Addr} {TE : ETx P K mg}
structure spTok (TE : ETx P K mg) (vs : List V) (H : Hp) (Q : VK) (E : XK) : Prop where
  ex : ∃ (cs : Cs) (p c : Nat) (rest : Cs), vs = [.str (S cs), .int (p : Int)] ∧ cs.length ≤ 10000 ∧ cs.drop p = c :: rest ∧ (∀ e, tokenAt c rest p = .bad e → ErrS TE H e E) ∧
    ∀ t n, tokenAt c rest p = .ok (t, n) → ∀ H' a q, Same H H' → H' a = some (.tup (tokV t)) → H' q = some (.tup [.ref a, .int ((p + n : Nat) : Int)]) → Q (.ref q) H'
theorem scTok : FnScope ["text", "at", "token"] ["text", "at"] (defScope (topS 19)) := ⟨rfl, rfl, rfl, by decide +kernel, rfl, by decide +kernel, by decide +kernel⟩
theorem ok_tok (c : KTx K mg) (GW : GOk P w K mg base (L2.CX P w) 2 "word_token" ["text", "at"] [] (spWord TE)) (GN : GOk P w K mg base (L2.CX P w) 2 "number_token" ["text", "at"] [] (spNum TE)) (F : GTx K mg 19 "token_at" ["text", "at"]) :
    GOk P w K mg base (L2.CX P w) 3 "token_at" ["text", "at"] [] (spTok TE) := by
  obtain ⟨f, fd, m, b, F⟩ := F
  obtain ⟨f1, fd1, m1, k1, b1, G1⟩ := GW
  obtain ⟨f2, fd2, m2, k2, b2, G2⟩ := GN
  refine ⟨f, fd, m, F.kp, b, F.okX scTok (fun vs H Q E h => ?_) (fun cdv A outer s H vs Q E hr h => ?_)⟩
  · obtain ⟨cs, p, c0, rest, rfl, _⟩ := h
    rfl
  obtain ⟨cs, p, c0, rest, rfl, hc, hd, qb, qo⟩ := h
  refine ⟨_, pss_cons (ps_if (pt_cmpR op_in_sign (pe_ix ix_str (pv 0) (pv 1) (fun _ _ => rfl)) (pe_glob (v := .str (S letL)) (by rfl) c.gLet ⟨_, rfl⟩) (by rfl))
      (pss_cons (ps_set (i := 2) scTok.nd rfl (Or.inl rfl) (pe_call G1 (hr.mono (by omega)) (by rfl) m1 k1 b1 .nil (passes_call (takes_of rfl rfl rfl rfl) fun _ _ _ _ h => h) (pa_cons (pv 0) (pa_cons (pv 1) pa_nil))))
      (pss_one (ps_ret (pe_tup (pa_cons (pv 2) (pa_cons (pe_op op_add (pv 1) (pe_callB call_len_str (by rfl) c.len PySem.boot_len (pa_cons (pe_ix ix_tup (pv 2) pe_int (fun _ _ => rfl)) pa_nil))) pa_nil)))))) pss_nil)
    (pss_cons (ps_if (pt_cmpR op_in_sign (pe_ix ix_str (pv 0) (pv 1) (fun _ _ => rfl)) (pe_glob (v := .str (S digL)) (by rfl) c.gDig ⟨_, rfl⟩) (by rfl))
      (pss_one (ps_ret (pe_call G2 (hr.mono (by omega)) (by rfl) m2 k2 b2 .nil (passes_call (takes_of rfl rfl rfl rfl) fun _ _ _ _ h => h) (pa_cons (pv 0) (pa_cons (pv 1) pa_nil))))) pss_nil)
    (pss_cons (ps_if (pt_cmpR op_in_seq (pe_slice sl_str (pv 0) (po_some (pv 1)) (po_some (pe_op op_add (pv 1) pe_int))) (pe_glob (v := .ref c.aL) (by rfl) c.gL rfl) (by rfl))
      (pss_one (ps_ret (pe_tup (pa_cons (pe_tup (pa_cons pe_str (pa_cons (pe_slice sl_str (pv 0) (po_some (pv 1)) (po_some (pe_op op_add (pv 1) pe_int))) (pa_cons (pv 1) pa_nil)))) (pa_cons (pe_op op_add (pv 1) pe_int) pa_nil))))) pss_nil)
    (pss_cons (ps_if (pt_cmpR op_in_sign (pe_ix ix_str (pv 0) (pv 1) (fun _ _ => rfl)) (pe_glob (v := .str (S signs)) (by rfl) c.gSig ⟨_, rfl⟩) (by rfl))
      (pss_one (ps_ret (pe_tup (pa_cons (pe_tup (pa_cons pe_str (pa_cons (pe_ix ix_str (pv 0) (pv 1) (fun _ _ => rfl)) (pa_cons (pv 1) pa_nil)))) (pa_cons (pe_op op_add (pv 1) pe_int) pa_nil))))) pss_nil)
    (pss_one (ps_raiseErr rfl TE.mal (.inl rfl) hr (takes_of rfl rfl rfl rfl) (pa_cons (pv 1) pa_nil) (by rfl) (by decide)))))), ?_⟩
  have hp : p < cs.length := by
    apply Classical.byContradiction
    intro z
    rw [List.drop_eq_nil_of_le (by omega)] at hd
    cases hd
  have he : cs[p]? = some c0 := by
    have z := congrArg List.head? hd
    rw [List.head?_drop] at z
    exact z
  have hz : (S cs).length ≤ sizeLine := line_of (by rw [S_len]; exact hc)
  have hat : atI (S cs).cps.toList (p : Int) = some c0 := atI_nat (by simpa using he)
  unfold tokenAt at qb qo
  refine ⟨_, rfl, _, rfl, S cs, _, c0, rfl, rfl, hz, hat, c0, S letL, rfl, rfl, _, rfl, ?_⟩
  show if decide (c0 ∈ letL) = true then _ else _
  rw [isLet_in]
  by_cases h1 : isLet c0 = true
  · refine if_t h1 ?_
    rw [if_pos h1] at qo
    have qb : ∀ e, wordAt ((c0 :: rest).takeWhile isNm) p = .bad e → ErrS TE H e E := fun e h => qb e (by rw [if_pos h1]; exact h)
    refine ⟨_, rfl, _, rfl, cs, p, rfl, hc, by omega, fun e h => qb e (by rw [hd] at h; exact h), fun t n h H' q k hq => ?_⟩
    rw [hd] at h
    obtain ⟨e1, e2, _⟩ := word_ok h
    have hwl := tw_le (f := isNm) (c0 :: rest)
    have hrl : (c0 :: rest).length ≤ 10000 := by rw [← hd, List.length_drop]; omega
    refine ⟨_, rfl, _, rfl, _, rfl, q, _, 1, _, rfl, rfl, SqT.of hq, ix1, ?_⟩
    rw [e2]
    refine ⟨_, rfl, (by rw [S_len]; exact line_of (by omega)), _, _, rfl, rfl, ?_⟩
    rw [S_len]
    refine ⟨(by show 2 ≤ sizeLine; decide), fun p2 hp2 => ?_⟩
    have s2 := same_new hp2
    refine qo t n h _ q p2 (k.trans (s2 _)) (s2 _ _ _ hq) ?_
    rw [upd_same, e1]
    congr 4
  refine if_f (by simpa using h1) ?_
  rw [if_neg h1] at qo
  have qb : ∀ e, _ = Out.bad e → ErrS TE H e E := fun e h => qb e (by rw [if_neg h1]; exact h)
  refine ⟨_, rfl, _, rfl, S cs, _, c0, rfl, rfl, hz, hat, c0, S digL, rfl, rfl, _, rfl, ?_⟩
  show if decide (c0 ∈ digL) = true then _ else _
  rw [isDig_in]
  by_cases h2 : isDig c0 = true
  · refine if_t h2 ?_
    rw [if_pos h2] at qo
    have qb : ∀ e, Afd.numAt ((c0 :: rest).takeWhile isDig) ((c0 :: rest).dropWhile isDig) p = .bad e → ErrS TE H e E := fun e h => qb e (by rw [if_pos h2]; exact h)
    refine ⟨_, rfl, _, rfl, cs, p, rfl, hc, by omega, ?_, fun e h => qb e (by rw [hd] at h; exact h), fun t n h H' a q k ha hq => qo t n (by rw [hd] at h; exact h) H' a q k ha hq⟩
    rw [hd, List.takeWhile_cons, if_pos h2]
    exact List.cons_ne_nil _ _
  refine if_f (by simpa using h2) ?_
  rw [if_neg h2] at qo
  have qb : ∀ e, _ = Out.bad e → ErrS TE H e E := fun e h => qb e (by rw [if_neg h2]; exact h)
  refine ⟨_, rfl, _, rfl, _, rfl, _, rfl, _, _, rfl, rfl, _, rfl, S cs, rfl, hz, ?_⟩
  rw [cutS_two (by omega), hd]
  refine ⟨c.aL, _, rfl, .inr (c.kL.sq _), rfl, flat_S _, _, rfl, ?_⟩
  show if inV (.str (S _)) (longs.map fun w => .str (S w)) = true then _ else _
  rw [inV_S]
  by_cases h3 : longs.contains ((c0 :: rest).take 2) = true
  · refine if_t h3 ?_
    rw [if_pos h3] at qo
    refine ⟨_, rfl, _, rfl, _, rfl, _, rfl, _, _, rfl, rfl, _, rfl, S cs, rfl, hz, ?_⟩
    rw [cutS_two (by omega), hd]
    refine ⟨_, rfl, (by show 3 ≤ sizeLine; decide), fun p1 hp1 => ?_⟩
    refine ⟨_, rfl, _, _, rfl, rfl, (by show 2 ≤ sizeLine; decide), fun p2 hp2 => ?_⟩
    exact qo _ _ rfl _ p1 p2 ((same_new hp1 _).trans (same_new hp2 _)) (same_new hp2 _ _ _ upd_same) upd_same
  refine if_f (by simpa using h3) ?_
  rw [if_neg h3] at qo
  have qb : ∀ e, _ = Out.bad e → ErrS TE H e E := fun e h => qb e (by rw [if_neg h3]; exact h)
  refine ⟨_, rfl, _, rfl, S cs, _, c0, rfl, rfl, hz, hat, c0, S signs, rfl, rfl, _, rfl, ?_⟩
  have hs : decide (c0 ∈ Afd.signs) = Afd.signs.contains c0 := by rw [Bool.eq_iff_iff]; simp
  show if decide (c0 ∈ Afd.signs) = true then _ else _
  rw [hs]
  by_cases h4 : Afd.signs.contains c0 = true
  · refine if_t h4 ?_
    rw [if_pos h4] at qo
    refine ⟨_, rfl, _, rfl, S cs, _, c0, rfl, rfl, hz, hat, ?_⟩
    refine ⟨_, rfl, (by show 3 ≤ sizeLine; decide), fun p1 hp1 => ?_⟩
    refine ⟨_, rfl, _, _, rfl, rfl, (by show 2 ≤ sizeLine; decide), fun p2 hp2 => ?_⟩
    exact qo _ _ rfl _ p1 p2 ((same_new hp1 _).trans (same_new hp2 _)) (same_new hp2 _ _ _ upd_same) upd_same
  refine if_f (by simpa using h4) ?_
  exact ⟨_, rfl, _, rfl, fun dd hd => qb _ (if_neg h4) dd _ (same_new hd _) upd_same⟩
/-! ### all tokens -/
def PostT (TE : ETx P K mg) (H : Hp) (ts0 : List Tk) (out : Out (List Tk)) (Q : VK) (E : XK) : Prop := match out with
  | .no => False
  | .bad e => ErrS TE H e E
  | .ok ts => ∀ H' tl, Same H H' → ToksAt H' tl (ts0 ++ ts) → Q (.ref tl) H'
structure spTokz (TE : ETx P K mg) (vs : List V) (H : Hp) (Q : VK) (E : XK) : Prop where
  ex : ∃ (cs : Cs), vs = [.str (S cs)] ∧ cs.length ≤ 20000 ∧ (10000 < cs.length → ErrS TE H .txt E) ∧ (cs.length ≤ 10000 → PostT TE H [] (toks (cs.length + 1) cs 0) Q E)
theorem toks_sp : ∀ (cs : Cs) (g p : Nat), toks g cs p = .no ∨ ∃ g', g' ≤ g ∧ toks g cs p = toks g' (cs.dropWhile isSp) (p + (cs.takeWhile isSp).length)
  | [], g, p => .inr ⟨g, Nat.le_refl _, rfl⟩
  | c :: r, 0, p => .inl rfl
  | c :: r, g + 1, p => by
    by_cases h : isSp c = true
    · rw [List.dropWhile_cons, List.takeWhile_cons, if_pos h, if_pos h]
      have e : toks (g + 1) (c :: r) p = toks g r (p + 1) := if_pos h
      rw [e]
      rcases toks_sp r g (p + 1) with z | ⟨g', h1, h2⟩
      · exact .inl z
      · refine .inr ⟨g', by omega, ?_⟩
        rw [h2, List.length_cons]
        congr 1
        omega
    · rw [List.dropWhile_cons, List.takeWhile_cons, if_neg h, if_neg h]
      exact .inr ⟨_, Nat.le_refl _, rfl⟩
theorem dw_head {f : Nat → Bool} : ∀ {l : Cs} {c : Nat} {r : Cs}, l.dropWhile f = c :: r → f c = false
  | [], _, _, h => by cases h
  | a :: l, c, r, h => by
    rw [List.dropWhile_cons] at h
    by_cases ha : f a = true
    · rw [if_pos ha] at h
      exact dw_head h
    · rw [if_neg ha] at h
      injection h with h1 h2
      subst h1
      simpa using ha
theorem isSp_in (c : Nat) : decide (c ∈ ([32, 10] : Cs)) = isSp c := by
  unfold isSp
  rw [Bool.eq_iff_iff]
  simp
/-- the spaces at a place are gone over -/
theorem PostT.sp {H : Hp} {ts0 : List Tk} {Q : VK} {E : XK} {g p : Nat} {cs : Cs} (hp : p ≤ cs.length) (h : PostT TE H ts0 (toks g (cs.drop p) p) Q E) :
    ∃ g', g' ≤ g ∧ PostT TE H ts0 (toks g' (cs.drop (runN [32, 10] cs p)) (runN [32, 10] cs p)) Q E ∧ ∀ c r, cs.drop (runN [32, 10] cs p) = c :: r → isSp c = false := by
  have e : (fun c => decide (c ∈ ([32, 10] : Cs))) = isSp := funext isSp_in
  have er : runN [32, 10] cs p = p + ((cs.drop p).takeWhile isSp).length := by
    show p + _ = _
    rw [e]
  have ed : cs.drop (runN [32, 10] cs p) = (cs.drop p).dropWhile isSp := by
    rw [er, ← List.drop_drop, dw_drop]
  rcases toks_sp (cs.drop p) g p with z | ⟨g', h1, h2⟩
  · rw [z] at h; exact h.elim
  · rw [h2] at h
    refine ⟨g', h1, ?_, fun c r hr => ?_⟩
    · rw [ed, er]; exact h
    · rw [ed] at hr
      exact dw_head hr
theorem ToksAt.push {H : Hp} {lc a : Addr} {ts0 : List Tk} {t : Tk} (h : ToksAt H lc ts0) (ha : H a = some (.tup (tokV t))) (hw : t.k = .word → words.contains t.s = true) (hs : ts0.length + 1 ≤ 10000) {xs : List V} (hl : H lc = some (.lst xs)) :
    ToksAt (upd H lc (.lst (xs ++ [.ref a]))) lc (ts0 ++ [t]) := by
  obtain ⟨as, h1, h2, h3⟩ := h.lst
  obtain rfl : as.map V.ref = xs := by
    rw [h1] at hl
    injection hl with hl
    injection hl
  refine ⟨by rw [List.length_append]; exact hs, fun t' ht' => ?_, as ++ [a], by rw [upd_same, List.map_append]; rfl, by rw [List.length_append, List.length_append, h2]; rfl, fun i a' t' e1 e2 => ?_⟩
  · rcases List.mem_append.mp ht' with z | z
    · exact h.wf t' z
    · rw [List.mem_singleton.mp z]; exact hw
  · have go : H a' = some (.tup (tokV t')) := by
      by_cases hi : i < as.length
      · rw [List.getElem?_append_left hi] at e1
        rw [List.getElem?_append_left (by omega)] at e2
        exact h3 i a' t' e1 e2
      · rw [List.getElem?_append_right (by omega)] at e1
        rw [List.getElem?_append_right (by omega), ← h2] at e2
        cases hj : i - as.length with
        | zero =>
          rw [hj] at e1 e2
          obtain rfl := Option.some.inj e1; obtain rfl := Option.some.inj e2
          exact ha
        | succ j => rw [hj] at e1; simp at e1
    rw [upd_ne (ne_of go h1 (by intro z; cases z))]
    exact go
theorem ToksAt.same {H H' : Hp} {tl : Addr} {ts : List Tk} (h : ToksAt H tl ts) (k : Same H H') : ToksAt H' tl ts := by
  obtain ⟨as, h1, h2, h3⟩ := h.lst
  exact ⟨h.small, h.wf, as, k _ _ h1, h2, fun i a t e1 e2 => k _ _ (h3 i a t e1 e2)⟩
def TInv (TE : ETx P K mg) (cs : Cs) (H : Hp) (Q : VK) (E : XK) (lc : Addr) (m : Nat) (σ' : L2.St) (H' : Hp) : Prop :=
  ∃ (ts0 : List Tk) (p : Nat) (o3 : Option V), σ' = [some (.str (S cs)), some (.ref lc), some (.int (p : Int)), o3] ∧ p ≤ cs.length ∧ ts0.length ≤ p ∧ Same H H' ∧ ToksAt H' lc ts0 ∧ (∀ c r, cs.drop p = c :: r → isSp c = false) ∧ PostT TE H ts0 (toks m (cs.drop p) p) Q E
theorem scTokz : FnScope ["text", "result", "at", "token"] ["text"] (defScope (topS 20)) := ⟨rfl, rfl, rfl, by decide +kernel, rfl, by decide +kernel, by decide +kernel⟩
theorem ok_tokz (c : KTx K mg) (GR : GOk P w K mg base CX0 1 "run_end" ["text", "at", "allowed"] [] spRun) (GT : GOk P w K mg base (L2.CX P w) 3 "token_at" ["text", "at"] [] (spTok TE)) (F : GTx K mg 20 "tokenize" ["text"]) :
    GOk P w K mg base (L2.CX P w) 4 "tokenize" ["text"] [] (spTokz TE) := by
  obtain ⟨f, fd, m, b, F⟩ := F
  obtain ⟨f1, fd1, m1, k1, b1, G1⟩ := GR
  obtain ⟨f2, fd2, m2, k2, b2, G2⟩ := GT
  refine ⟨f, fd, m, F.kp, b, F.okX scTokz (fun vs H Q E h => ?_) (fun cdv A outer s H vs Q E hr h => ?_)⟩
  · obtain ⟨cs, rfl, _⟩ := h
    rfl
  obtain ⟨cs, rfl, hc, qt, q⟩ := h
  refine ⟨_, pss_cons (ps_if (pt_cmpR op_gt (pe_callB call_len_str (by rfl) c.len PySem.boot_len (pa_cons (pv 0) pa_nil)) (pe_glob (v := .int 10000) (by rfl) c.gT ⟨_, rfl⟩) (nomark _)) (pss_one (ps_raiseErr rfl TE.unb (.inr rfl) hr (takes_of rfl rfl rfl rfl) (pa_cons pe_str pa_nil) (by rfl) (by decide))) pss_nil)
    (pss_cons (ps_set (i := 1) scTokz.nd rfl (Or.inl rfl) (pe_lst pa_nil))
    (pss_cons (ps_set (i := 2) scTokz.nd rfl (Or.inl rfl) (pe_call G1 (hr.mono (by omega)) (by rfl) m1 k1 b1 .nil pass0 (pa_cons (pv 0) (pa_cons pe_int (pa_cons pe_str pa_nil)))))
    (pss_cons (ps_while (passes_of rfl) (pt_cmpR op_lt (pv 2) (pe_callB call_len_str (by rfl) c.len PySem.boot_len (pa_cons (pv 0) pa_nil)) (nomark _))
      (pss_cons (ps_asg (pe_call G2 (hr.mono (by omega)) (by rfl) m2 k2 b2 .nil (passes_call (takes_of rfl rfl rfl rfl) fun _ _ _ _ h => h) (pa_cons (pv 0) (pa_cons (pv 2) pa_nil))) (pg_tup rfl (pgs_cons (pg_name (i := 3) scTokz.nd rfl (Or.inl rfl)) (pgs_cons (pg_name (i := 2) scTokz.nd rfl (Or.inl rfl)) pgs_nil))))
      (pss_cons (ps_expr (pe_bm PySem.F.plainAttrs_list PySem.F.slot_list_append PySem.F.type_list_append mt_append (pv 1) (pa_cons (pv 3) pa_nil)))
      (pss_one (ps_set (i := 2) scTokz.nd rfl (Or.inl rfl) (pe_call G1 (hr.mono (by omega)) (by rfl) m1 k1 b1 .nil pass0 (pa_cons (pv 0) (pa_cons (pv 2) (pa_cons pe_str pa_nil)))))))))
    (pss_one (ps_ret (pv 1)))))), ?_⟩
  refine ⟨_, rfl, S cs, rfl, (by rw [S_len, sizeLine_eq]; omega), _, _, rfl, rfl, _, rfl, ?_⟩
  rw [S_len]
  by_cases h1 : 10000 < cs.length
  · refine if_t (decide_eq_true (by omega)) ?_
    exact ⟨_, rfl, fun dd hd => qt h1 dd _ (same_new hd _) upd_same⟩
  refine if_f (decide_eq_false (by omega)) ?_
  have hc : cs.length ≤ 10000 := by omega
  have q := q hc
  refine ⟨(by show 0 ≤ sizeLine; decide), fun lc hlc => ?_⟩
  have s0 := same_new hlc (.lst [])
  refine ⟨_, rfl, cs, [32, 10], 0, rfl, hc, Nat.zero_le _, ?_⟩
  obtain ⟨g0, _, q, hsp⟩ := PostT.sp (p := 0) (cs := cs) (Nat.zero_le _) q
  refine ⟨TInv TE cs H Q E lc, ⟨g0, [], _, none, rfl, run_le _ _ _ (Nat.zero_le _), Nat.zero_le _, s0, ⟨by decide, by simp, [], upd_same, rfl, by simp⟩, hsp, q⟩, ?_⟩
  clear q hsp s0
  rintro mm σ' H1 ⟨ts0, p, o3, rfl, hp, hts, k1, hT, hsp, q⟩
  refine ⟨_, rfl, _, rfl, S cs, rfl, line_of (by rw [S_len]; exact hc), _, _, rfl, rfl, _, rfl, ?_⟩
  rw [S_len]
  cases hd : cs.drop p with
  | nil =>
    have hz : cs.length ≤ p := List.drop_eq_nil_iff.mp hd
    refine if_f (decide_eq_false (by omega)) ?_
    rw [hd] at q
    cases mm with
    | zero => exact q.elim
    | succ mm =>
      refine ⟨_, rfl, q H1 lc k1 ?_⟩
      rw [List.append_nil]
      exact hT
  | cons c0 rest =>
    have hz : p < cs.length := by
      apply Classical.byContradiction
      intro z
      rw [List.drop_eq_nil_of_le (by omega)] at hd
      cases hd
    refine if_t (decide_eq_true (by omega)) ?_
    refine ⟨fun σ' H' => ∃ m', m' < mm ∧ TInv TE cs H Q E lc m' σ' H', fun _ _ h => h, ?_⟩
    rw [hd] at q
    cases mm with
    | zero => exact q.elim
    | succ mm =>
    have e : toks (mm + 1) (c0 :: rest) p = (tokenAt c0 rest p).bind fun x => (toks mm ((c0 :: rest).drop x.2) (p + x.2)).bind fun ts => .ok (x.1 :: ts) := if_neg (by rw [hsp c0 rest hd]; decide)
    rw [e] at q
    refine ⟨_, rfl, _, rfl, cs, p, c0, rest, rfl, hc, hd, fun e h => ?_, fun t n h H2 a q2 k2 ha hq2 => ?_⟩
    · rw [h] at q
      exact (show ErrS TE H e E from q).kp k1
    rw [h] at q
    obtain ⟨n1, n2, nw⟩ := tok_ok h
    have hrl : (c0 :: rest).length = cs.length - p := by rw [← hd, List.length_drop]
    have hdd : (c0 :: rest).drop n = cs.drop (p + n) := by rw [← hd, List.drop_drop]
    have q : PostT TE H (ts0 ++ [t]) (toks mm (cs.drop (p + n)) (p + n)) Q E := by
      have q' : PostT TE H ts0 ((toks mm ((c0 :: rest).drop n) (p + n)).bind fun ts => .ok (t :: ts)) Q E := q
      rw [hdd] at q'
      revert q'
      cases toks mm (cs.drop (p + n)) (p + n) with
      | no => exact fun z => z
      | bad e => exact fun z => z
      | ok ts =>
        intro z H' tl k hT
        refine z H' tl k ?_
        rw [List.append_assoc] at hT
        exact hT
    obtain ⟨g', hg', q, hsp'⟩ := PostT.sp (by omega) q
    refine ⟨q2, _, rfl, SqT.of hq2, rfl, _, _, rfl, _, _, rfl, rfl, ?_⟩
    have hT2 := hT.same k2
    obtain ⟨as, l1, l2, _⟩ := hT2.lst
    refine ⟨_, rfl, .inl ⟨rfl, _, SqL.of l1⟩, ?_⟩
    have hal : as.length ≤ 10000 := by
      have := hT2.small
      omega
    refine ⟨_, rfl, lc, _, _, rfl, rfl, l1, (by rw [List.length_map, sizeLine_eq]; omega), ?_⟩
    have hT3 := hT2.push ha nw (by omega) l1
    refine ⟨_, rfl, _, rfl, cs, [32, 10], p + n, rfl, hc, by omega, ?_⟩
    refine ⟨g', by omega, ts0 ++ [t], _, _, rfl, run_le _ _ _ (by omega), ?_, ?_, hT3, hsp', q⟩
    · rw [List.length_append]
      show ts0.length + 1 ≤ p + n + _
      omega
    · intro b o e
      rw [upd_ne (ne_of_none e hlc)]
      exact k2 _ _ (k1 _ _ e)
end
end Af

/-! W13: a reader made; read. -/
namespace Af
open PySem PySem.Spec PyProof.Rows L2 Afd
theorem put4 (tl : Addr) (n : Int) : putF "depth" (.int 0) (putF "at" (.int 0) (putF "size" (.int n) (putF "tokens" (.ref tl) []))) = rf tl n 0 0 := by
  have e1 : ¬ (("tokens" : Str) = ("size" : Str)) := by decide +kernel
  have e2 : ¬ (("tokens" : Str) = ("at" : Str)) := by decide +kernel
  have e3 : ¬ (("size" : Str) = ("at" : Str)) := by decide +kernel
  have e4 : ¬ (("tokens" : Str) = ("depth" : Str)) := by decide +kernel
  have e5 : ¬ (("size" : Str) = ("depth" : Str)) := by decide +kernel
  have e6 : ¬ (("at" : Str) = ("depth" : Str)) := by decide +kernel
  simp [putF, e1, e2, e3, e4, e5, e6]
section
variable {P : Program} {w : World} {K : PySem.W.Frag} {mg : Str → Option Value} {base : Heap} {C : Addr} {TE : ETx P K mg}
structure spInit (TE : ETx P K mg) (C : Addr) (vs : List V) (H : Hp) (Q : VK) (E : XK) : Prop where
  ex : ∃ (cs : Cs) (x dx : Addr), vs = [.ref x, .str (S cs)] ∧ H x = some (.ins C dx []) ∧ cs.length ≤ 20000 ∧ (10000 < cs.length → ErrS TE H .txt E) ∧
    (cs.length ≤ 10000 → match toks (cs.length + 1) cs 0 with
      | .no => False
      | .bad e => ErrS TE H e E
      | .ok ts => ∀ H' tl, Kp x H H' → RdAt C H' ⟨x, dx, tl, cs.length, ts⟩ ts 60 → Q .non H')
theorem scInit : FnScope ["self", "text"] ["self", "text"] (defScope (meS 0)) := ⟨rfl, rfl, rfl, by decide +kernel, rfl, by decide +kernel, by decide +kernel⟩
theorem ok_init (T : RTx K mg C) (GZ : GOk P w K mg base (L2.CX P w) 4 "tokenize" ["text"] [] (spTokz TE)) (F : MTx K C 0 "__init__" "Reader.__init__" ["self", "text"]) :
    MOk P w K mg base C (L2.CX P w) 5 "__init__" ["self", "text"] (spInit TE C) := by
  obtain ⟨f, fd, m, b, F⟩ := F
  obtain ⟨f1, fd1, m1, k1, b1, G1⟩ := GZ
  refine ⟨f, fd, m, b, F.okX scInit (fun vs H Q E h => ?_) (fun cdv A outer s H vs Q E hr h => ?_)⟩
  · obtain ⟨cs, x, dx, rfl, _⟩ := h
    rfl
  obtain ⟨cs, x, dx, rfl, hx, hc, qt, q⟩ := h
  refine ⟨_, pss_cons (ps_fld (pv 0) (pe_call G1 (hr.mono (by omega)) (by rfl) m1 k1 b1 .nil (passes_call (takes_of rfl rfl rfl rfl) fun _ _ _ _ h => h) (pa_cons (pv 1) pa_nil)) rfl)
    (pss_cons (ps_fld (pv 0) (pe_callB call_len_str (by rfl) T.len PySem.boot_len (pa_cons (pv 1) pa_nil)) rfl)
    (pss_cons (ps_fld (pv 0) pe_int rfl)
    (pss_one (ps_fld (pv 0) pe_int rfl)))), ?_⟩
  refine ⟨_, rfl, cs, rfl, hc, qt, fun h => ?_⟩
  have q := q h
  revert q
  cases e : toks (cs.length + 1) cs 0 with
  | no => exact fun z => z
  | bad er => exact fun z => z
  | ok ts =>
    intro q H1 tl k1 hT
    rw [List.nil_append] at hT
    have h1 := k1 _ _ hx
    refine ⟨_, rfl, x, C, dx, [], rfl, h1, T.cl, T.nT, (by show 0 < 1000; decide), ?_⟩
    refine ⟨_, rfl, S cs, rfl, (by rw [S_len]; exact line_of h), ?_⟩
    refine ⟨_, rfl, x, C, dx, _, rfl, upd_same, T.cl, T.nS, (by show 1 < 1000; decide), ?_⟩
    refine ⟨_, rfl, x, C, dx, _, rfl, upd_same, T.cl, T.nA, (by show 2 < 1000; decide), ?_⟩
    refine ⟨_, rfl, x, C, dx, _, rfl, upd_same, T.cl, T.nD, (by show 3 < 1000; decide), ?_⟩
    rw [S_len]
    have kk : ∀ o1 o2 o3 o4, Kp x H1 (upd (upd (upd (upd H1 x o1) x o2) x o3) x o4) := fun o1 o2 o3 o4 b o n e => by
      rw [upd_ne n, upd_ne n, upd_ne n, upd_ne n]
      exact e
    refine q _ tl ((Kp.same k1).trans (kk _ _ _ _)) ⟨Nat.le_refl _, List.suffix_refl _, hT.kp h1 (kk _ _ _ _), ?_⟩
    rw [upd_same, put4]
    show some (HO.ins C dx (rf tl (cs.length : Int) 0 0)) = some (HO.ins C dx (rf tl (cs.length : Int) (((ts.length - ts.length : Nat) : Int)) (((60 - 60 : Nat) : Int))))
    rw [Nat.sub_self]
    rfl
def PostD (TE : ETx P K mg) (H : Hp) (out : Out Unit) (Q : VK) (E : XK) : Prop := match out with
  | .no => False
  | .bad e => ErrS TE H e E
  | .ok _ => ∀ H' v, Same H H' → Q v H'
structure spRead (TE : ETx P K mg) (vs : List V) (H : Hp) (Q : VK) (E : XK) : Prop where
  ex : ∃ (cs : Cs), vs = [.str (S cs)] ∧ cs.length ≤ 20000 ∧ PostD TE H (rdg cs) Q E
theorem scRead : FnScope ["text"] ["text"] (defScope (topS 28)) := ⟨rfl, rfl, rfl, by decide +kernel, rfl, by decide +kernel, by decide +kernel⟩
theorem ok_read (T : RTx K mg C) (gR : mg "Reader" = some (.ref C)) (MK : ∀ f, Meth K C "__init__" f → Mk K C f) (GI : MOk P w K mg base C (L2.CX P w) 5 "__init__" ["self", "text"] (spInit TE C)) (GP : MOk P w K mg base C (L2.CX P w) (GF + 7) "program" ["self"] (spProg TE C)) (F : GTx K mg 28 "read" ["text"]) :
    GOk P w K mg base (L2.CX P w) (GF + 8) "read" ["text"] [] (spRead TE) := by
  obtain ⟨f, fd, m, b, F⟩ := F
  obtain ⟨f1, fd1, m1, b1, G1⟩ := GI
  obtain ⟨f2, fd2, m2, b2, G2⟩ := GP
  refine ⟨f, fd, m, F.kp, b, F.okX scRead (fun vs H Q E h => ?_) (fun cdv A outer s H vs Q E hr h => ?_)⟩
  · obtain ⟨cs, rfl, _⟩ := h
    rfl
  obtain ⟨cs, rfl, hc, q⟩ := h
  refine ⟨_, pss_one (ps_ret (pe_meth0 (pe_make (MK _ m1) G1 (hr.mono (by show 6 ≤ GF + 7; decide)) (by rfl) gR b1 .nil (passes_call (takes_of rfl rfl rfl rfl) fun _ _ _ _ h => h) (pa_cons (pv 0) pa_nil)) T.cl m2 G2 hr b2 .nil (passes_call (takes_of rfl rfl rfl rfl) fun _ _ _ _ h => h))), ?_⟩
  refine ⟨_, rfl, fun x dx hx hdx hne => ?_⟩
  have up : ∀ {H' : Hp}, Kp x (upd (upd H dx (.own x)) x (.ins C dx [])) H' → Same H H' := fun k b o e => by
    have n1 : b ≠ x := ne_of_none e hx
    have n2 : b ≠ dx := ne_of_none e hdx
    refine k b o n1 ?_
    rw [upd_ne n1, upd_ne n2]
    exact e
  have upE : ∀ {e : Er}, ErrS TE H e E → ErrP TE x (upd (upd H dx (.own x)) x (.ins C dx [])) e E := fun h d H' k hd => h d H' (up k) hd
  unfold rdg at q
  refine ⟨cs, x, dx, rfl, upd_same, hc, fun h => ?_, fun h => ?_⟩
  · rw [if_pos h] at q
    exact (upE q).s
  rw [if_neg (by omega)] at q
  revert q
  cases e : toks (cs.length + 1) cs 0 with
  | no => exact fun z => z
  | bad er => exact fun z => (upE z).s
  | ok ts =>
    intro q H1 tl k R1
    refine ⟨rfl, ?_⟩
    refine ⟨x, dx, _, rfl, R1.ins, rf_no no_prog _ _ _ _, ?_⟩
    refine ⟨⟨x, dx, tl, cs.length, ts⟩, ts, 9, rfl, Nat.le_refl _, R1, ?_⟩
    have q : PostD TE H (prog cs.length 9 ts) Q E := q
    revert q
    show PostD TE H (prog cs.length 9 ts) Q E → PostU TE ⟨x, dx, tl, cs.length, ts⟩ H1 (prog cs.length 9 ts) Q E
    generalize prog cs.length 9 ts = out
    cases out with
    | no => exact fun z => z
    | bad er => exact fun z => ErrP.kp (upE z) k
    | ok u => exact fun z H' v k' => z H' v (up (k.trans k'))
end
end Af

/-! W14: the law's cells. -/
namespace Af
open PySem PySem.Spec PyProof.Rows L2 Afd
/-- the law's state: a count of at most k, and cells; what stood before it (H0) is kept -/
structure StAt (H0 H : Hp) (l : Addr) (k : Nat) : Prop where
  keep : Same H0 H
  free : H0 l = none
  ex : ∃ (n : Nat) (c : Addr) (cells : List Nat), H l = some (.lst [.int (n : Int), .ref c]) ∧ H c = some (.lst (cells.map fun x : Nat => V.int (x : Int))) ∧ n ≤ k ∧ cells ≠ [] ∧ cells.length ≤ 63 ∧ l ≠ c ∧ H0 c = none
theorem StAt.same {H0 H H' : Hp} {l : Addr} {k : Nat} (h : StAt H0 H l k) (s : Same H H') : StAt H0 H' l k := by
  obtain ⟨n, c, cells, h1, h2, h3⟩ := h.ex
  exact ⟨h.keep.trans s, h.free, n, c, cells, s _ _ h1, s _ _ h2, h3⟩
theorem StAt.le {H0 H : Hp} {l : Addr} {k k' : Nat} (h : StAt H0 H l k) (s : k ≤ k') : StAt H0 H l k' := by
  obtain ⟨n, c, cells, h1, h2, h3, h4⟩ := h.ex
  exact ⟨h.keep, h.free, n, c, cells, h1, h2, by omega, h4⟩
theorem cutV_all (xs : List V) (h : xs.length ≤ 63) : cutV xs none (some 63) = xs := by
  unfold cutV
  have e1 : HT.sIx xs.length 0 none = 0 := rfl
  have e2 : HT.sIx xs.length xs.length (some 63) = xs.length := by
    show (if (63 : Int) < 0 then ((63 : Int) + (xs.length : Nat)).toNat else min (63 : Int).toNat xs.length) = _
    rw [if_neg (by decide)]
    show min 63 xs.length = _
    omega
  rw [e1, e2, Nat.sub_zero, List.drop_zero, List.take_length]
theorem abs_nat (i : Int) : (if i < 0 then -i else i) = ((i.natAbs : Nat) : Int) := by split <;> omega
section
variable {P : Program} {w : World} {K : PySem.W.Frag} {mg : Str → Option Value} {base : Heap} {C : Addr} {TE : ETx P K mg}
structure spState (K : PySem.W.Frag) (vs : List V) (H : Hp) (Q : VK) (E : XK) : Prop where
  ex : ∃ (a : Addr) (ns : List Int), vs = [.ref a] ∧ SqL K H a (ns.map V.int) ∧ ns.length ≤ 63 ∧ ∀ H' l, StAt H H' l 0 → Q (.ref l) H'
theorem scState : FnScope ["_law_script", "_law_cells", "_law_cell"] ["_law_script"] (defScope (topS 30)) := ⟨rfl, rfl, rfl, by decide +kernel, rfl, by decide +kernel, by decide +kernel⟩
theorem ok_state (ma : mg "abs" = none) (ml : mg "len" = none) (F : GTx K mg 30 "_law_state" ["_law_script"]) : GOk P w K mg base CX0 1 "_law_state" ["_law_script"] [] (spState K) := by
  obtain ⟨f, fd, m, b, F⟩ := F
  refine ⟨f, fd, m, F.kp, b, F.ok scState (fun vs H Q E h => ?_) (fun cdv A outer s H vs Q E hr h => ?_)⟩
  · obtain ⟨a, ns, rfl, _⟩ := h
    rfl
  obtain ⟨a, ns, rfl, hS, hl, q⟩ := h
  refine ⟨_, pss_cons (ps_setLc (i := 1) (own := [("_law_cell", 2)]) (g := gName 2) (tt := tYes) (te := tCB (fun xs H Q => ∃ i, xs = [V.int i] ∧ Q (V.int (if i < 0 then -i else i)) H) (tCons (tVar 2) tNil)) rfl scState.nd rfl rfl (sw_true rfl rfl rfl (by decide +kernel))
      (pi_list (pe_slice sl_list (pv 0) po_none (po_some pe_int))) (blkOk_by (N := ["_law_script", "_law_cells", "_law_cell"]) (sc := defScope (topS 30)) (by decide +kernel)) (fun _ _ _ _ _ => pg_name (i := 2) scState.nd rfl (Or.inl rfl)) (fun _ _ _ _ _ => pts_nil)
      (fun _ _ _ _ _ => pe_callB call_abs (by rfl) ma (by decide +kernel) (pa_cons (pv 2) pa_nil)))
    (pss_cons (ps_if (pt_cmpR op_eq (pe_callB call_len_seq (by rfl) ml PySem.boot_len (pa_cons (pv 1) pa_nil)) pe_int (nomark _)) (pss_one (ps_set (i := 1) scState.nd rfl (Or.inl rfl) (pe_lst (pa_cons pe_int pa_nil)))) pss_nil)
    (pss_one (ps_ret (pe_lst (pa_cons pe_int (pa_cons (pv 1) pa_nil)))))), ?_⟩
  have hxl : (ns.map V.int).length ≤ 63 := by rw [List.length_map]; exact hl
  refine ⟨_, rfl, 63, rfl, a, _, rfl, hS, fun p hp => ?_⟩
  rw [cutV_all _ hxl]
  refine ⟨p, rfl, ⟨_, SqL.of upd_same⟩, fun D hD => lc_list (K := K) (a := p) (xs := ns.map V.int) (fun i H' => Same H H' ∧ H' p = some (.lst (ns.map V.int)) ∧ H' D = some (.lst ((ns.take i).map fun n => V.int ((n.natAbs : Nat) : Int))))
    ⟨(same_new hp _).trans (same_new hD _), same_new hD _ _ _ upd_same, upd_same⟩ (fun i H' _ h => SqL.of h.2.1) ?_ ?_⟩
  · rintro i x H' hx ⟨k, hP, hL⟩
    obtain ⟨n, hn, rfl⟩ : ∃ n, ns[i]? = some n ∧ x = V.int n := by
      rw [List.getElem?_map] at hx
      cases e : ns[i]? with
      | none => rw [e] at hx; cases hx
      | some n => rw [e] at hx; exact ⟨n, rfl, (Option.some.inj hx).symm⟩
    have hi := (List.getElem?_eq_some_iff.mp hn).1
    refine ⟨rfl, ?_⟩
    refine ⟨_, rfl, n, rfl, _, hL, ?_, fun b o e => ?_, ?_, ?_⟩
    · rw [List.length_map, List.length_take, sizeLine_eq]
      omega
    · have hbD : b ≠ D := by
        have : (upd H p (.lst (ns.map V.int))) b = some o := same_new hp _ _ _ e
        exact ne_of_none this hD
      rw [upd_ne hbD]
      exact k b o e
    · have : p ≠ D := ne_of_none upd_same hD
      rw [upd_ne this]
      exact hP
    · rw [upd_same, List.take_succ, hn, List.map_append, abs_nat]
      rfl
  rintro H1 ⟨k1, _, hL1⟩
  rw [List.length_map, List.take_length] at hL1
  have hD0 : H D = none := by
    cases e : H D with
    | none => rfl
    | some o => exact absurd hD (by rw [same_new hp _ _ _ e]; exact fun z => by cases z)
  refine ⟨_, rfl, D, _, rfl, .inl (SqL.of hL1), rfl, _, rfl, ?_⟩
  rw [List.length_map]
  have fin : ∀ (H2 : Hp) (D2 : Addr) (cells : List Nat), Same H H2 → H D2 = none → H2 D2 = some (.lst (cells.map fun x : Nat => V.int (x : Int))) → cells ≠ [] → cells.length ≤ 63 → ∀ l, H2 l = none → Q (.ref l) (upd H2 l (.lst [.int 0, .ref D2])) := fun H2 D2 cells k hD2 h2 h3 h4 l hl2 => by
    have hll : H l = none := by
      cases e : H l with
      | none => rfl
      | some o => rw [k _ _ e] at hl2; cases hl2
    have ne : D2 ≠ l := ne_of_none h2 hl2
    exact q _ l ⟨k.trans (same_new hl2 _), hll, 0, D2, cells, upd_same, by rw [upd_ne ne]; exact h2, Nat.le_refl _, h3, h4, Ne.symm ne, hD2⟩
  by_cases h0 : ns.length = 0
  · refine if_t (decide_eq_true (by rw [h0]; rfl)) ?_
    refine ⟨(by show 1 ≤ sizeLine; decide), fun l0 hl0 => ?_⟩
    refine ⟨_, rfl, (by show 2 ≤ sizeLine; decide), fun l hl2 => ?_⟩
    have hll : H l0 = none := by
      cases e : H l0 with
      | none => rfl
      | some o => rw [k1 _ _ e] at hl0; cases hl0
    exact fin _ l0 [0] (k1.trans (same_new hl0 _)) hll upd_same (by simp) (by decide) l hl2
  · refine if_f (decide_eq_false (fun z => h0 (by injection z with z; omega))) ?_
    refine ⟨_, rfl, (by show 2 ≤ sizeLine; decide), fun l hl2 => ?_⟩
    refine fin _ D (ns.map Int.natAbs) k1 hD0 ?_ (by intro z; exact h0 (by rw [List.map_eq_nil_iff.mp z]; rfl)) (by rw [List.length_map]; exact hl) l hl2
    rw [hL1, List.map_map]
    rfl
/-! ### a number of the script -/
theorem ixN_n {n j : Nat} (hj : j < n) : ixN n (j : Int) = some j := by
  unfold ixN
  rw [if_pos (by omega), if_pos (by omega), Int.toNat_natCast]
structure spPick (vs : List V) (H : Hp) (Q : VK) (E : XK) : Prop where
  ex : ∃ (H0 : Hp) (l : Addr) (k mo : Nat), vs = [.ref l, .int (mo : Int)] ∧ StAt H0 H l k ∧ 0 < mo ∧ mo ≤ 100 ∧ k ≤ 1000 ∧ ∀ H' (r : Nat), r < mo → StAt H0 H' l (k + 1) → Q (.int (r : Int)) H'
theorem scPick : FnScope ["_law_state_here", "_law_most", "_law_cells", "_law_at", "_law_cell", "_law_mixed"] ["_law_state_here", "_law_most"] (defScope (topS 31)) := ⟨rfl, rfl, rfl, by decide +kernel, rfl, by decide +kernel, by decide +kernel⟩
theorem ok_pick (ml : mg "len" = none) (mi : mg "int" = none) (F : GTx K mg 31 "_law_take" ["_law_state_here", "_law_most"]) : GOk P w K mg base CX0 1 "_law_take" ["_law_state_here", "_law_most"] [] spPick := by
  obtain ⟨f, fd, m, b, F⟩ := F
  refine ⟨f, fd, m, F.kp, b, F.ok scPick (fun vs H Q E h => ?_) (fun cdv A outer s H vs Q E hr h => ?_)⟩
  · obtain ⟨H0, l, k, mo, rfl, _⟩ := h
    rfl
  obtain ⟨H0, l, k, mo, rfl, hSt, hm0, hm, hk, q⟩ := h
  refine ⟨_, pss_cons (ps_set (i := 2) scPick.nd rfl (Or.inl rfl) (pe_ix ix_list (pv 0) pe_int (fun _ _ => rfl)))
    (pss_cons (ps_set (i := 3) scPick.nd rfl (Or.inl rfl) (pe_op op_mod (pe_ix ix_list (pv 0) pe_int (fun _ _ => rfl)) (pe_callB call_len_seq (by rfl) ml PySem.boot_len (pa_cons (pv 2) pa_nil))))
    (pss_cons (ps_set (i := 4) scPick.nd rfl (Or.inl rfl) (pe_ix ix_list (pv 2) (pv 3) (fun _ _ => rfl)))
    (pss_cons (ps_if (pt_cmpR op_ge (pv 4) pe_int (nomark _)) (pss_cons (ps_asg (pe_op op_fdivW (pv 4) (pv 1)) (pg_sub (pv 2) (pv 3) set_list)) (pss_one (ps_ret (pe_op op_mod (pv 4) (pv 1))))) pss_nil)
    (pss_cons (ps_asg (pe_op op_add (pe_ix ix_list (pv 0) pe_int (fun _ _ => rfl)) pe_int) (pg_sub (pv 0) pe_int set_list))
    (pss_cons (ps_set (i := 5) scPick.nd rfl (Or.inl rfl) (pe_op op_mod (pe_callTy call_int1 (by rfl) mi (by decide +kernel) (pa_cons (pe_op op_add (pe_op op_mul (pv 4) pe_int) (pe_op op_mul (pe_ix ix_list (pv 0) pe_int (fun _ _ => rfl)) pe_int)) pa_nil)) pe_int))
    (pss_cons (ps_set (i := 5) scPick.nd rfl (Or.inl rfl) (pe_op op_mod (pe_callTy call_int1 (by rfl) mi (by decide +kernel) (pa_cons (pe_op op_add (pe_op op_mul (pv 5) pe_int) (pe_op op_mul (pe_ix ix_list (pv 0) pe_int (fun _ _ => rfl)) pe_int)) pa_nil)) pe_int))
    (pss_one (ps_ret (pe_op op_mod (pe_op op_fdiv (pv 5) pe_int) (pv 1)))))))))), ?_⟩
  obtain ⟨n, c, cells, h1, h2, hn, hne, h63, hlc, hc0⟩ := hSt.ex
  have hlen : 0 < cells.length := List.length_pos_iff.mpr hne
  have hat : n % cells.length < cells.length := Nat.mod_lt _ hlen
  have ha : atI (cells.map fun x : Nat => V.int (x : Int)) ((n : Int) % ((cells.length : Nat) : Int)) = some (V.int ((cells[n % cells.length] : Nat) : Int)) := by
    rw [← Int.natCast_emod]
    exact atI_nat (by rw [List.getElem?_map, List.getElem?_eq_getElem hat]; rfl)
  have hlc' : l ≠ c := hlc
  refine ⟨_, rfl, l, _, 1, _, rfl, rfl, SqL.of h1, ix1, ?_⟩
  refine ⟨_, rfl, l, _, 0, _, rfl, rfl, SqL.of h1, ix0, _, rfl, c, _, rfl, .inl (SqL.of h2), _, _, rfl, rfl, ?_⟩
  rw [List.length_map]
  refine ⟨(by show (0 : Int) < ((cells.length : Nat) : Int); omega), ?_⟩
  refine ⟨_, rfl, _, rfl, c, _, _, _, rfl, rfl, SqL.of h2, ha, ?_⟩
  generalize hcell : cells[n % cells.length] = cell
  refine ⟨_, rfl, _, _, rfl, rfl, _, rfl, ?_⟩
  by_cases hbig : 1000000000000000000 ≤ cell
  · refine if_t (decide_eq_true (by omega)) ?_
    refine ⟨_, rfl, _, rfl, _, _, rfl, rfl, wide_div (b := 7) (by omega) (by show mo < 2 ^ 7; omega) (by decide) (by decide), ?_⟩
    refine ⟨_, rfl, _, rfl, c, _, _, n % cells.length, rfl, rfl, h2, ?_, ?_⟩
    · rw [List.length_map, ← Int.natCast_emod]
      exact ixN_n hat
    refine ⟨_, rfl, _, rfl, _, _, rfl, rfl, (by show (0 : Int) < (mo : Int); omega), ?_⟩
    show Q (V.int ((cell : Int) % (mo : Int))) _
    rw [← Int.natCast_emod]
    refine q _ _ (Nat.mod_lt _ hm0) ⟨fun b o e => ?_, hSt.free, n, c, cells.set (n % cells.length) (cell / mo), by rw [upd_ne hlc']; exact h1, ?_, by omega, ?_, by rw [List.length_set]; exact h63, hlc', hc0⟩
    · rw [upd_ne (ne_of_none e hc0)]
      exact hSt.keep b o e
    · rw [upd_same, List.map_set]
      rfl
    · intro z
      exact hne (List.length_eq_zero_iff.mp (by rw [← List.length_set, z]; rfl))
  refine if_f (decide_eq_false (by omega)) ?_
  refine ⟨_, rfl, l, _, 0, _, rfl, rfl, SqL.of h1, ix0, _, _, rfl, rfl, ?_⟩
  refine ⟨_, rfl, l, _, 0, 0, rfl, rfl, h1, rfl, ?_⟩
  have s1 : StAt H0 (upd H l (.lst [.int ((n : Int) + 1), .ref c])) l (k + 1) := ⟨fun b o e => by rw [upd_ne (ne_of_none e hSt.free)]; exact hSt.keep b o e, hSt.free, n + 1, c, cells, by rw [upd_same]; rfl, by rw [upd_ne (Ne.symm hlc')]; exact h2, by omega, hne, h63, hlc', hc0⟩
  have h1' : (upd H l (.lst [.int ((n : Int) + 1), .ref c])) l = some (.lst [.int ((n : Int) + 1), .ref c]) := upd_same
  refine ⟨_, rfl, _, _, rfl, rfl, .inl ⟨by omega, by omega⟩, ?_⟩
  refine ⟨_, rfl, l, _, 0, _, rfl, rfl, SqL.of h1', ix0, _, _, rfl, rfl, .inl ⟨by omega, by omega⟩, ?_⟩
  refine ⟨_, _, rfl, rfl, .inl ⟨_, rfl, ?_⟩⟩
  refine ⟨_, _, rfl, rfl, (by show (0 : Int) < 2147483647; decide), ?_⟩
  have b1 := Int.emod_nonneg ((cell : Int) * 48271 + ((n : Int) + 1) * 69621) (show (2147483647 : Int) ≠ 0 by decide)
  have b2 := Int.emod_lt_of_pos ((cell : Int) * 48271 + ((n : Int) + 1) * 69621) (show (0 : Int) < 2147483647 by decide)
  refine ⟨_, rfl, _, _, rfl, rfl, .inl ⟨by omega, by omega⟩, ?_⟩
  refine ⟨_, rfl, l, _, 0, _, rfl, rfl, SqL.of h1', ix0, _, _, rfl, rfl, .inl ⟨by omega, by omega⟩, ?_⟩
  refine ⟨_, _, rfl, rfl, .inl ⟨_, rfl, ?_⟩⟩
  refine ⟨_, _, rfl, rfl, (by show (0 : Int) < 1000000007; decide), ?_⟩
  refine ⟨_, rfl, _, _, rfl, rfl, ⟨by decide, by decide⟩, ?_⟩
  refine ⟨_, rfl, _, _, rfl, rfl, (by show (0 : Int) < (mo : Int); omega), ?_⟩
  show Q (V.int ((((((cell : Int) * 48271 + ((n : Int) + 1) * 69621) % 2147483647) * 16807 + ((n : Int) + 1) * 7919) % 1000000007) / 7 % (mo : Int))) (upd H l (.lst [.int ((n : Int) + 1), .ref c]))
  generalize (((((cell : Int) * 48271 + ((n : Int) + 1) * 69621) % 2147483647) * 16807 + ((n : Int) + 1) * 7919) % 1000000007) / 7 = x3
  have c1 := Int.emod_nonneg x3 (show (mo : Int) ≠ 0 by omega)
  have c2 := Int.emod_lt_of_pos x3 (show (0 : Int) < (mo : Int) by omega)
  rw [← Int.toNat_of_nonneg c1]
  exact q _ _ (by omega) s1
end
end Af

/-! W15: the law's texts. -/
namespace Af
open PySem PySem.Spec PyProof.Rows L2 Afd
theorem S_app (a b : Cs) : S a ++ S b = S (a ++ b) := SX.S_cat a b
/-- texts put together -/
def rCatS : R2 := fun x y H Q => ∃ a b : Cs, x = .str (S a) ∧ y = .str (S b) ∧ a.length + b.length ≤ 100000 ∧ Q (.str (S (a ++ b))) H
theorem op_catS {X : Cx} : OpR X (binaryOp .Add) rCatS := by
  intro pins s σ H x y v u Q I rx ry h; obtain ⟨a, b, e1, e2, hl, q⟩ := h
  exact op_add_str pins s σ H x y v u Q I rx ry ⟨S a, S b, e1, e2, by rw [S_len, S_len, sizeLine_eq]; omega, by rw [S_app]; exact q⟩
/-- a text so many times -/
def rRepS : R2 := fun x y H Q => ∃ (a : Cs) (n : Nat), x = .str (S a) ∧ y = .int (n : Int) ∧ a.length * n ≤ 100000 ∧ n ≤ 100000 ∧ Q (.str (S (rep n a))) H
theorem foldl_rep (a : Cs) (n : Nat) (b : Array Nat) : (List.replicate n a.toArray).foldl (· ++ ·) b = b ++ (rep n a).toArray := by
  induction n generalizing b with
  | zero => simp [rep]
  | succ n ih =>
    rw [List.replicate_succ, List.foldl_cons, ih]
    simp [rep, List.replicate_succ]
theorem rep_len (n : Nat) (a : Cs) : (rep n a).length = n * a.length := by
  induction n with
  | zero => rw [Nat.zero_mul]; rfl
  | succ n ih =>
    show (a ++ rep n a).length = _
    rw [List.length_append, ih, Nat.succ_mul, Nat.add_comm]
theorem op_repS {X : Cx} : OpR X (binaryOp .Mult) rRepS := by
  intro pins s σ H x y v u Q I rx ry h; obtain ⟨a, n, rfl, rfl, hl, hn, q⟩ := h
  obtain ⟨t, rfl⟩ := rx
  obtain ⟨t', rfl⟩ := ry
  have hlen : (S a).length = a.length := S_len a
  have hbig : ¬ ((a.length * n) > sizeLine) := by rw [sizeLine_eq]; omega
  refine PySem.P.mul_str (by
      have h1 : ¬ ((n : Int) < -(2 ^ 63 : Int)) := by omega
      have h2 : ¬ ((n : Int) ≥ 2 ^ 63) := by omega
      rw [decide_eq_false h1, decide_eq_false h2]; rfl) (fun h1 _ => ?_) (fun _ _ => ?_) ?_
  · rw [hlen]
    have h0 : (0 : Int) < n := by omega
    intro z
    have z2 : ((a.length : Nat) : Int) * n > 2 ^ 63 - 1 := by
      have := Int.lt_mul_of_ediv_lt h0 z
      omega
    have z3 : ((a.length * n : Nat) : Int) ≤ 100000 := Int.ofNat_le.mpr hl
    rw [Int.natCast_mul] at z3
    omega
  · show decide ((S a).length * (n : Int).toNat > sizeLine) = false
    rw [hlen, Int.toNat_natCast]
    exact decide_eq_false hbig
  · have z : ((List.replicate (n : Int).toNat (S a).cps).foldl (· ++ ·) #[] : Array Nat) = (rep n a).toArray := by
      rw [Int.toNat_natCast, foldl_rep]
      simp
    rw [z]
    have zl : (rep n a).length = n * a.length := rep_len n a
    by_cases c1 : (n : Int) < 1
    · rw [if_pos c1]
      obtain rfl : n = 0 := by omega
      exact ⟨by decide, .str (S (rep 0 a)), H, I.tok _, ⟨_, rfl⟩, q⟩
    · rw [if_neg c1]
      by_cases c2 : ((n : Int) == 1 || (S a).length == 0) = true
      · rw [if_pos c2]
        have e : rep n a = a := by
          rw [Bool.or_eq_true, beq_iff_eq, beq_iff_eq, hlen] at c2
          rcases c2 with c2 | c2
          · obtain rfl : n = 1 := by omega
            simp [rep]
          · obtain rfl : a = [] := List.length_eq_zero_iff.mp c2
            simp [rep]
        rw [e] at q
        exact ⟨.str (S a), H, I, ⟨_, rfl⟩, q⟩
      · rw [if_neg c2]
        refine ⟨?_, .str (S (rep n a)), H, I.tok _, ⟨_, rfl⟩, q⟩
        show (S (rep n a)).length ≤ sizeLine
        rw [S_len, zl, sizeLine_eq, Nat.mul_comm]
        omega
end Af

/-! W16: the texts that the law draws. -/
namespace Af
open PySem PySem.Spec PyProof.Rows L2 Afd
theorem StAt.push {H0 H : Hp} {l : Addr} {k : Nat} (h : StAt H0 H l k) {p : Addr} (hp : H p = none) (o : HO) : StAt (upd H0 p o) (upd H p o) l k := by
  obtain ⟨n, c, cells, h1, h2, h3, h4, h5, h6, h7⟩ := h.ex
  have n1 : l ≠ p := ne_of_none h1 hp
  have n2 : c ≠ p := ne_of_none h2 hp
  refine ⟨fun b u e => ?_, by rw [upd_ne n1]; exact h.free, n, c, cells, by rw [upd_ne n1]; exact h1, by rw [upd_ne n2]; exact h2, h3, h4, h5, h6, by rw [upd_ne n2]; exact h7⟩
  by_cases hb : b = p
  · subst hb
    rw [upd_same] at e ⊢
    exact e
  · rw [upd_ne hb] at e ⊢
    exact h.keep b u e
theorem StAt.weak {H0 H1 H : Hp} {l : Addr} {k : Nat} (h : StAt H1 H l k) (s : Same H0 H1) : StAt H0 H l k := by
  obtain ⟨n, c, cells, h1, h2, h3, h4, h5, h6, h7⟩ := h.ex
  have fr : ∀ b, H1 b = none → H0 b = none := fun b e => by
    cases z : H0 b with
    | none => rfl
    | some o => rw [s _ _ z] at e; cases e
  exact ⟨s.trans h.keep, fr _ h.free, n, c, cells, h1, h2, h3, h4, h5, h6, fr _ h7⟩
theorem StAt.new {H0 H : Hp} {l : Addr} {k : Nat} (h : StAt H0 H l k) {p : Addr} (hp : H p = none) : H0 p = none := by
  cases z : H0 p with
  | none => rfl
  | some o => rw [h.keep _ _ z] at hp; cases hp
section
variable {P : Program} {w : World} {K : PySem.W.Frag} {mg : Str → Option Value} {base : Heap}
/-- a text of a depth below D -/
structure spText (D : Nat) (vs : List V) (H : Hp) (Q : VK) (E : XK) : Prop where
  ex : ∃ (H0 : Hp) (l : Addr) (k d : Nat), vs = [.ref l, .int (d : Int)] ∧ d < D ∧ d ≤ 3 ∧ StAt H0 H l k ∧ k + 4 * 4 ^ d ≤ 1000 ∧ ∀ H' (t : Tr), t.dep ≤ d → StAt H0 H' l (k + 4 * 4 ^ d) → Q (.str (S t.cs)) H'
theorem scText : FnScope ["_law_state_here", "_law_depth", "_law_kind", "_law_one", "_law_two"] ["_law_state_here", "_law_depth"] (defScope (topS 32)) := ⟨rfl, rfl, rfl, by decide +kernel, rfl, by decide +kernel, by decide +kernel⟩
theorem atomV : ([V.str "x", V.str "12", V.str "true", V.str "y_1", V.str "unit", V.str "(f 3)", V.str "(1, 2)", V.str "(ask o 1)"] : List V) = atoms.map fun a => V.str (S a) := by decide +kernel
theorem opsV : ([V.str " + ", V.str " - ", V.str " * ", V.str " < ", V.str " == ", V.str ")("] : List V) = (ops ++ [[41, 40]]).map fun a => V.str (S a) := by decide +kernel
theorem at_list {ws : List Cs} {r : Nat} (h : r < ws.length) : atI (ws.map fun a => V.str (S a)) (r : Int) = some (.str (S ws[r])) := atI_nat (by rw [List.getElem?_map, List.getElem?_eq_getElem h]; rfl)
theorem pow_step (d : Nat) : 4 ^ (d + 1) = 4 * 4 ^ d := by rw [Nat.pow_succ]; omega
theorem pow_pos (d : Nat) : 1 ≤ 4 ^ d := Nat.pow_pos (by decide)
theorem ok_text (GT : GOk P w K mg base CX0 1 "_law_take" ["_law_state_here", "_law_most"] [] spPick) (F : GTx K mg 32 "_law_text" ["_law_state_here", "_law_depth"]) : ∀ D, GOk P w K mg base CX0 (D + 2) "_law_text" ["_law_state_here", "_law_depth"] [] (spText D)
  | 0 => by
    obtain ⟨f, fd, m, b, F⟩ := F
    refine ⟨f, fd, m, F.kp, b, F.ok scText (fun vs H Q E h => ?_) (fun cdv A outer s H vs Q E hr h => ?_)⟩
    · obtain ⟨H0, l, k, d, rfl, _⟩ := h
      rfl
    · obtain ⟨H0, l, k, d, rfl, hd, _⟩ := h
      omega
  | D + 1 => by
    have G2 := ok_text GT F D
    obtain ⟨f, fd, m, b, F⟩ := F
    obtain ⟨f1, fd1, m1, k1, b1, G1⟩ := GT
    obtain ⟨f2, fd2, m2, k2, b2, G2⟩ := G2
    refine ⟨f, fd, m, F.kp, b, F.ok scText (fun vs H Q E h => ?_) (fun cdv A outer s H vs Q E hr h => ?_)⟩
    · obtain ⟨H0, l, k, d, rfl, _⟩ := h
      rfl
    obtain ⟨H0, l, k, d, rfl, hd, h3, hS, hk, q⟩ := h
    refine ⟨_, (pss_cons (ps_set (i := 2) scText.nd rfl (Or.inl rfl) (pe_call G1 (hr.mono (by omega)) (by rfl) m1 k1 b1 .nil pass0 (pa_cons (pv 0) (pa_cons pe_int pa_nil))))
    (pss_cons (ps_if (PW.pt (pw_or (pt_cmpR op_eq (pv 1) pe_int (nomark _)) (pw_or1 (pt_cmpR op_lt (pv 2) pe_int (nomark _))))) (pss_one (ps_ret (pe_ix ix_list (pe_lst (pa_cons pe_str (pa_cons pe_str (pa_cons pe_str (pa_cons pe_str (pa_cons pe_str (pa_cons pe_str (pa_cons pe_str (pa_cons pe_str pa_nil))))))))) (pe_call G1 (hr.mono (by omega)) (by rfl) m1 k1 b1 .nil pass0 (pa_cons (pv 0) (pa_cons pe_int pa_nil))) (fun _ _ => rfl)))) pss_nil)
    (pss_cons (ps_set (i := 3) scText.nd rfl (Or.inl rfl) (pe_call G2 (hr.mono (by omega)) (by rfl) m2 k2 b2 .nil pass0 (pa_cons (pv 0) (pa_cons (pe_op op_sub (pv 1) pe_int) pa_nil))))
    (pss_cons (ps_if (pt_cmpR op_eq (pv 2) pe_int (nomark _)) (pss_one (ps_ret (pe_op op_catS (pe_op op_catS pe_str (pv 3)) pe_str))) pss_nil)
    (pss_cons (ps_if (pt_cmpR op_eq (pv 2) pe_int (nomark _)) (pss_one (ps_ret (pe_op op_catS (pe_op op_catS pe_str (pv 3)) pe_str))) pss_nil)
    (pss_cons (ps_set (i := 4) scText.nd rfl (Or.inl rfl) (pe_call G2 (hr.mono (by omega)) (by rfl) m2 k2 b2 .nil pass0 (pa_cons (pv 0) (pa_cons (pe_op op_sub (pv 1) pe_int) pa_nil))))
    (pss_cons (ps_if (pt_cmpR op_eq (pv 2) pe_int (nomark _)) (pss_one (ps_ret (pe_op op_catS (pe_op op_catS (pe_op op_catS (pe_op op_catS pe_str (pv 3)) pe_str) (pv 4)) pe_str))) pss_nil)
    (pss_cons (ps_if (pt_cmpR op_eq (pv 2) pe_int (nomark _)) (pss_one (ps_ret (pe_op op_catS (pe_op op_catS (pe_op op_catS (pe_op op_catS pe_str (pv 3)) pe_str) (pv 4)) pe_str))) pss_nil)
    (pss_cons (ps_if (pt_cmpR op_eq (pv 2) pe_int (nomark _)) (pss_one (ps_ret (pe_op op_catS (pe_op op_catS (pe_op op_catS (pe_op op_catS (pe_op op_catS (pe_op op_catS pe_str (pv 3)) pe_str) (pv 4)) pe_str) (pv 4)) pe_str))) pss_nil)
    (pss_one (ps_ret (pe_op op_catS (pe_op op_catS (pe_op op_catS (pe_op op_catS pe_str (pv 3)) (pe_ix ix_list (pe_lst (pa_cons pe_str (pa_cons pe_str (pa_cons pe_str (pa_cons pe_str (pa_cons pe_str (pa_cons pe_str pa_nil))))))) (pe_call G1 (hr.mono (by omega)) (by rfl) m1 k1 b1 .nil pass0 (pa_cons (pv 0) (pa_cons pe_int pa_nil))) (fun _ _ => rfl))) (pv 4)) pe_str)))))))))))), ?_⟩
    have p1 := pow_pos d
    refine ⟨_, rfl, H0, l, k, 10, rfl, hS, by decide, by decide, by omega, fun H1 kd hkd S1 => ?_⟩
    -- a leaf
    have leaf : d = 0 ∨ kd < 2 → ∀ p, H1 p = none → ∃ (H0' : Hp) (l' : Addr) (k' mo : Nat), [V.ref l, V.int 8] = [.ref l', .int (mo : Int)] ∧ StAt H0' (upd H1 p (.lst (atoms.map fun a => V.str (S a)))) l' k' ∧ 0 < mo ∧ mo ≤ 100 ∧ k' ≤ 1000 ∧
        ∀ H' (r : Nat), r < mo → StAt H0' H' l' (k' + 1) → ∃ (t : Tr), t.dep ≤ d ∧ StAt H0 H' l (k + 4 * 4 ^ d) ∧ SqL K H' p (atoms.map fun a => V.str (S a)) ∧ atI (atoms.map fun a => V.str (S a)) (r : Int) = some (.str (S t.cs)) := fun _ p hp =>
      ⟨upd H0 p (.lst (atoms.map fun a => V.str (S a))), l, k + 1, 8, rfl, S1.push hp _, by decide, by decide, by omega, fun H' r hr8 S2 =>
        ⟨.atm ⟨r, hr8⟩, Nat.zero_le _, (S2.weak (same_new (S1.new hp) _)).le (by omega), SqL.of (S2.keep _ _ upd_same), at_list (ws := atoms) hr8⟩⟩
    refine ⟨_, rfl, rfl, _, rfl, ?_⟩
    have ed : decide (V.int (d : Int) = V.int 0) = decide (d = 0) := by
      by_cases z : d = 0
      · subst z; rfl
      · have : ¬ V.int (d : Int) = V.int 0 := fun e => z (by injection e with e; omega)
        rw [decide_eq_false z, decide_eq_false this]
    show if decide (V.int (d : Int) = V.int 0) = true then _ else _
    rw [ed]
    by_cases c0 : d = 0
    · refine if_t (decide_eq_true c0) (iteT ?_)
      refine ⟨(by show 8 ≤ sizeLine; decide), fun p hp => ?_⟩
      rw [atomV]
      obtain ⟨H0', l', k', mo, e, S2, z1, z2, z3, z4⟩ := leaf (.inl c0) p hp
      refine ⟨_, rfl, H0', l', k', mo, e, S2, z1, z2, z3, fun H' r hr8 S3 => ?_⟩
      obtain ⟨t, t1, t2, t3, t4⟩ := z4 H' r hr8 S3
      exact ⟨p, _, _, _, rfl, rfl, t3, t4, q H' t t1 t2⟩
    refine if_f (decide_eq_false c0) ?_
    refine ⟨_, rfl, _, _, rfl, rfl, _, rfl, ?_⟩
    by_cases c1 : kd < 2
    · refine if_t (decide_eq_true (by omega)) ?_
      refine ⟨(by show 8 ≤ sizeLine; decide), fun p hp => ?_⟩
      rw [atomV]
      obtain ⟨H0', l', k', mo, e, S2, z1, z2, z3, z4⟩ := leaf (.inr c1) p hp
      refine ⟨_, rfl, H0', l', k', mo, e, S2, z1, z2, z3, fun H' r hr8 S3 => ?_⟩
      obtain ⟨t, t1, t2, t3, t4⟩ := z4 H' r hr8 S3
      exact ⟨p, _, _, _, rfl, rfl, t3, t4, q H' t t1 t2⟩
    refine if_f (decide_eq_false (by omega)) ?_
    clear leaf ed
    obtain ⟨e, rfl⟩ : ∃ e, d = e + 1 := ⟨d - 1, by omega⟩
    have pe := pow_step e
    have p2 := pow_pos e
    refine ⟨_, rfl, _, rfl, _, _, rfl, rfl, H0, l, k + 1, e, ?_, by omega, by omega, S1, by omega, fun H2 t ht S2 => ?_⟩
    · show [V.ref l, V.int (((e + 1 : Nat) : Int) - 1)] = _
      rw [show ((e + 1 : Nat) : Int) - 1 = (e : Int) by omega]
    have lt := len_945 t (by omega)
    have eqk : ∀ (z : Nat), decide (V.int (kd : Int) = V.int (z : Int)) = decide (kd = z) := fun z => by
      by_cases y : kd = z
      · subst y; simp
      · have : ¬ V.int (kd : Int) = V.int (z : Int) := fun e => y (by injection e with e; omega)
        rw [decide_eq_false y, decide_eq_false this]
    have ql : ∀ H' (t : Tr), t.dep ≤ e + 1 → (∃ k', k' ≤ k + 4 * 4 ^ (e + 1) ∧ StAt H0 H' l k') → Q (.str (S t.cs)) H' := fun H' t h ⟨k', h1, h2⟩ => q H' t h (h2.le h1)
    clear q hS S1
    refine ⟨_, rfl, rfl, _, rfl, ?_⟩
    show if decide (V.int (kd : Int) = V.int ((2 : Nat) : Int)) = true then _ else _
    rw [eqk]
    by_cases c2 : kd = 2
    · refine if_t (decide_eq_true c2) ?_
      refine ⟨_, rfl, [40], t.cs, by rfl, rfl, by simp <;> omega, ?_⟩
      refine ⟨([40] ++ t.cs), [41], rfl, by rfl, by simp <;> omega, ?_⟩
      exact ql _ (.par t) (Nat.succ_le_succ ht) ⟨_, by omega, S2⟩
    refine if_f (decide_eq_false c2) ?_
    refine ⟨_, rfl, rfl, _, rfl, ?_⟩
    show if decide (V.int (kd : Int) = V.int ((3 : Nat) : Int)) = true then _ else _
    rw [eqk]
    by_cases c3 : kd = 3
    · refine if_t (decide_eq_true c3) ?_
      refine ⟨_, rfl, [102, 115, 116, 32, 40], t.cs, by rfl, rfl, by simp <;> omega, ?_⟩
      refine ⟨([102, 115, 116, 32, 40] ++ t.cs), [41], rfl, by rfl, by simp <;> omega, ?_⟩
      exact ql _ (.fst t) (Nat.succ_le_succ ht) ⟨_, by omega, S2⟩
    refine if_f (decide_eq_false c3) ?_
    refine ⟨_, rfl, _, rfl, _, _, rfl, rfl, H0, l, k + 1 + 4 * 4 ^ e, e, ?_, by omega, by omega, S2, by omega, fun H3 u hu S3 => ?_⟩
    · show [V.ref l, V.int (((e + 1 : Nat) : Int) - 1)] = _
      rw [show ((e + 1 : Nat) : Int) - 1 = (e : Int) by omega]
    have lu := len_945 u (by omega)
    have hmx : max t.dep u.dep ≤ e := by omega
    refine ⟨_, rfl, rfl, _, rfl, ?_⟩
    show if decide (V.int (kd : Int) = V.int ((4 : Nat) : Int)) = true then _ else _
    rw [eqk]
    by_cases c4 : kd = 4
    · refine if_t (decide_eq_true c4) ?_
      refine ⟨_, rfl, [40, 108, 101, 116, 32, 122, 32, 61, 32], t.cs, by rfl, rfl, by simp <;> omega, ?_⟩
      refine ⟨([40, 108, 101, 116, 32, 122, 32, 61, 32] ++ t.cs), [32, 105, 110, 32], rfl, by rfl, by simp <;> omega, ?_⟩
      refine ⟨_, rfl, (([40, 108, 101, 116, 32, 122, 32, 61, 32] ++ t.cs) ++ [32, 105, 110, 32]), u.cs, by rfl, rfl, by simp <;> omega, ?_⟩
      refine ⟨((([40, 108, 101, 116, 32, 122, 32, 61, 32] ++ t.cs) ++ [32, 105, 110, 32]) ++ u.cs), [41], rfl, by rfl, by simp <;> omega, ?_⟩
      exact ql _ (.let_ t u) (Nat.succ_le_succ hmx) ⟨_, by omega, S3⟩
    refine if_f (decide_eq_false c4) ?_
    refine ⟨_, rfl, rfl, _, rfl, ?_⟩
    show if decide (V.int (kd : Int) = V.int ((5 : Nat) : Int)) = true then _ else _
    rw [eqk]
    by_cases c5 : kd = 5
    · refine if_t (decide_eq_true c5) ?_
      refine ⟨_, rfl, [40, 105, 102, 32], t.cs, by rfl, rfl, by simp <;> omega, ?_⟩
      refine ⟨([40, 105, 102, 32] ++ t.cs), [32, 116, 104, 101, 110, 32], rfl, by rfl, by simp <;> omega, ?_⟩
      refine ⟨_, rfl, (([40, 105, 102, 32] ++ t.cs) ++ [32, 116, 104, 101, 110, 32]), u.cs, by rfl, rfl, by simp <;> omega, ?_⟩
      refine ⟨((([40, 105, 102, 32] ++ t.cs) ++ [32, 116, 104, 101, 110, 32]) ++ u.cs), [32, 101, 108, 115, 101, 32, 120, 41], rfl, by rfl, by simp <;> omega, ?_⟩
      exact ql _ (.if_ t u) (Nat.succ_le_succ hmx) ⟨_, by omega, S3⟩
    refine if_f (decide_eq_false c5) ?_
    refine ⟨_, rfl, rfl, _, rfl, ?_⟩
    show if decide (V.int (kd : Int) = V.int ((6 : Nat) : Int)) = true then _ else _
    rw [eqk]
    by_cases c6 : kd = 6
    · refine if_t (decide_eq_true c6) ?_
      refine ⟨_, rfl, [40, 104, 97, 110, 100, 108, 101, 32], t.cs, by rfl, rfl, by simp <;> omega, ?_⟩
      refine ⟨([40, 104, 97, 110, 100, 108, 101, 32] ++ t.cs), [32, 123, 32, 114, 101, 116, 117, 114, 110, 32, 114, 32, 61, 62, 32], rfl, by rfl, by simp <;> omega, ?_⟩
      refine ⟨_, rfl, (([40, 104, 97, 110, 100, 108, 101, 32] ++ t.cs) ++ [32, 123, 32, 114, 101, 116, 117, 114, 110, 32, 114, 32, 61, 62, 32]), u.cs, by rfl, rfl, by simp <;> omega, ?_⟩
      refine ⟨((([40, 104, 97, 110, 100, 108, 101, 32] ++ t.cs) ++ [32, 123, 32, 114, 101, 116, 117, 114, 110, 32, 114, 32, 61, 62, 32]) ++ u.cs), [32, 124, 32, 111, 32, 121, 32, 107, 32, 61, 62, 32, 107, 32, 121, 32, 124, 32, 112, 32, 121, 32, 107, 32, 61, 62, 32], rfl, by rfl, by simp <;> omega, ?_⟩
      refine ⟨_, rfl, (((([40, 104, 97, 110, 100, 108, 101, 32] ++ t.cs) ++ [32, 123, 32, 114, 101, 116, 117, 114, 110, 32, 114, 32, 61, 62, 32]) ++ u.cs) ++ [32, 124, 32, 111, 32, 121, 32, 107, 32, 61, 62, 32, 107, 32, 121, 32, 124, 32, 112, 32, 121, 32, 107, 32, 61, 62, 32]), u.cs, by rfl, rfl, by simp <;> omega, ?_⟩
      refine ⟨((((([40, 104, 97, 110, 100, 108, 101, 32] ++ t.cs) ++ [32, 123, 32, 114, 101, 116, 117, 114, 110, 32, 114, 32, 61, 62, 32]) ++ u.cs) ++ [32, 124, 32, 111, 32, 121, 32, 107, 32, 61, 62, 32, 107, 32, 121, 32, 124, 32, 112, 32, 121, 32, 107, 32, 61, 62, 32]) ++ u.cs), [32, 125, 41], rfl, by rfl, by simp <;> omega, ?_⟩
      exact ql _ (.han t u) (Nat.succ_le_succ hmx) ⟨_, by omega, S3⟩
    refine if_f (decide_eq_false c6) ?_
    refine ⟨_, rfl, [40], t.cs, by rfl, rfl, by simp <;> omega, ?_⟩
    refine ⟨(by show 6 ≤ sizeLine; decide), fun p hp => ?_⟩
    rw [opsV]
    refine ⟨_, rfl, upd H0 p (.lst ((ops ++ [[41, 40]]).map fun a => V.str (S a))), l, k + 1 + 4 * 4 ^ e + 4 * 4 ^ e, 6, rfl, S3.push hp _, by decide, by decide, by omega, fun H4 r hr6 S4 => ?_⟩
    have hr6' : r < (ops ++ [[41, 40]]).length := hr6
    have S5 := S4.weak (same_new (S3.new hp) _)
    have lo : ((ops ++ [[41, 40]])[r]).length ≤ 4 := by
      have h : ∀ i : Fin 6, ((ops ++ [[41, 40]])[i.val]'(i.isLt)).length ≤ 4 := by decide
      exact h ⟨r, hr6⟩
    refine ⟨p, _, _, _, rfl, rfl, SqL.of (S4.keep _ _ upd_same), at_list hr6', ?_⟩
    generalize ho : (ops ++ [[41, 40]])[r] = w6 at *
    refine ⟨([40] ++ t.cs), w6, rfl, rfl, by simp <;> omega, ?_⟩
    refine ⟨_, rfl, ([40] ++ t.cs ++ w6), u.cs, rfl, rfl, by simp <;> omega, ?_⟩
    refine ⟨([40] ++ t.cs ++ w6 ++ u.cs), [41], rfl, by rfl, by simp <;> omega, ?_⟩
    by_cases c7 : r < 5
    · have e7 : w6 = ops[r]'(by show r < 5; exact c7) := by
        rw [← ho, List.getElem_append_left (by show r < 5; exact c7)]
      rw [e7]
      exact ql _ (.op ⟨r, c7⟩ t u) (Nat.succ_le_succ hmx) ⟨_, by omega, S5⟩
    · obtain rfl : r = 5 := by omega
      have e7 : w6 = [41, 40] := ho.symm
      rw [e7]
      exact ql _ (.app t u) (Nat.succ_le_succ hmx) ⟨_, by omega, S5⟩
end
end Af

/-! W17: what read raises, told. -/
namespace L2
open PySem PySem.Spec PyProof.Rows
/-- isinstance of the caught error, its class told in the reading -/
def rIsG (K : PySem.W.Frag) (a : Addr) (cls : Value) (d : Option Addr) : List V → Hp → VK → Prop := fun xs H Q => ∃ D dd, cls = .ref D ∧ d = some dd ∧ ExcC K D ∧ rIsD K D a dd xs H Q
theorem call_isG {X : Cx} {a : Addr} {oe : Obj} {cls : Value} {d : Option Addr} {pn : List (Addr × Obj)} (hz : Zc cls d oe) (hf : ∃ vs, oe.data = .fields vs) : CallR (X.suite a ((a, oe) :: pn)) (.builtin "isinstance") (rIsG X.K a cls d) := by
  intro pins s σ H xs us Q I r h; obtain ⟨D, dd, rfl, rfl, C, h⟩ := h
  exact call_isD C hz hf pins s σ H xs us Q I r h
end L2
namespace Af
open PySem PySem.Spec PyProof.Rows L2 Afd
/-- one class of errors, as isinstance sees it -/
structure XOne (K : PySem.W.Frag) (C aR aK aT aM : Addr) : Prop where
  ex : ExcC K C
  ref : PySem.W.exmOne K (.ref C) (.ref aR) = some true
  vE : PySem.W.kitOne K (.ref C) (.type "ValueError") = some true
  nK : PySem.W.kitOne K (.ref C) (.ref aK) = some false
  nT : PySem.W.kitOne K (.ref C) (.ref aT) = some false
  nM : PySem.W.kitOne K (.ref C) (.ref aM) = some false
structure XTx (P : Program) (K : PySem.W.Frag) (mg : Str → Option Value) (TE : ETx P K mg) where
  aR : Addr
  aK : Addr
  aT : Addr
  aM : Addr
  gR : mg "Refused" = some (.ref aR)
  gK : mg "Unknown" = some (.ref aK)
  gT : mg "Twice" = some (.ref aT)
  gM : mg "Mismatched" = some (.ref aM)
  gI : mg "isinstance" = none
  gV : mg "ValueError" = none
  int : mg "int" = none
  oM : XOne K TE.CM aR aK aT aM
  oU : XOne K TE.CU aR aK aT aM
  mm : PySem.W.kitOne K (.ref TE.CM) (.ref TE.CM) = some true
  mu : PySem.W.kitOne K (.ref TE.CM) (.ref TE.CU) = some false
  um : PySem.W.kitOne K (.ref TE.CU) (.ref TE.CM) = some false
  uu : PySem.W.kitOne K (.ref TE.CU) (.ref TE.CU) = some true
def outV : Out Unit → List V
  | .ok _ => [.str "none", .int 0]
  | .bad (.mal k) => [.str "at", .int (k : Int)]
  | .bad .dep => [.str "name", .str "depth"]
  | .bad .txt => [.str "name", .str "text"]
  | .no => []
section
variable {P : Program} {w : World} {K : PySem.W.Frag} {mg : Str → Option Value} {base : Heap} {TE : ETx P K mg}
structure spRaised (vs : List V) (H : Hp) (Q : VK) (E : XK) : Prop where
  ex : ∃ (cs : Cs), vs = [.str (S cs)] ∧ cs.length ≤ 20000 ∧ rdg cs ≠ .no ∧ ∀ H' q, Same H H' → H' q = some (.tup (outV (rdg cs))) → Q (.ref q) H'
theorem scRaised : FnScope ["_law_text_here", "e"] ["_law_text_here"] (defScope (topS 33)) := ⟨rfl, rfl, rfl, by decide +kernel, rfl, by decide +kernel, by decide +kernel⟩
theorem ref_rel {c : Addr} {u : Value} (h : RelV (.ref c) u) : u = .ref c := h
theorem ok_raised (XT : XTx P K mg TE) (GR : GOk P w K mg base (L2.CX P w) (GF + 8) "read" ["text"] [] (spRead TE)) (F : GTx K mg 33 "_law_raised" ["_law_text_here"]) : GOk P w K mg base CX0 (GF + 9) "_law_raised" ["_law_text_here"] [] spRaised := by
  obtain ⟨f, fd, m, b, F⟩ := F
  obtain ⟨f1, fd1, m1, k1, b1, G1⟩ := GR
  refine ⟨f, fd, m, F.kp, b, F.ok scRaised (fun vs H Q E h => ?_) (fun cdv A outer s H vs Q E hr h => ?_)⟩
  · obtain ⟨cs, rfl, _⟩ := h
    rfl
  obtain ⟨cs, rfl, hc, hno, q⟩ := h
  refine ⟨_, pss_cons (ps_try_as (i := 1) (tb := fun W => tDrop (tCallS (spRead TE) (WE W) (tCons (tVar 0) tNil))) (Wout := fun _ _ _ _ => False) rfl rfl scRaised.nd rfl rfl ⟨rfl, by decide, Or.inl XT.gR⟩ takes0
      (fun W pn xe tk _ => pss_one (ps_expr (by exact (pe_callS G1 hr rfl m1 k1 b1 (fun σ => passAt tk σ) (by exact (pa_cons (pv 0) pa_nil))))))
      (fun a oe cls d pn hz hf => pss_cons (ps_if (PW.pt (pw_or (pt_not (pt_val (pe_callB (call_isG hz hf) (by rfl) XT.gI (by decide +kernel) (pa_cons (pv 1) (pa_cons (pe_bltn (v := .ty "ValueError") (by rfl) XT.gV (by decide +kernel) rfl) pa_nil)))))
          (pw_or (pt_val (pe_callB (call_isG hz hf) (by rfl) XT.gI (by decide +kernel) (pa_cons (pv 1) (pa_cons (pe_glob (v := .ref XT.aK) (by rfl) XT.gK rfl) pa_nil))))
          (pw_or (pt_val (pe_callB (call_isG hz hf) (by rfl) XT.gI (by decide +kernel) (pa_cons (pv 1) (pa_cons (pe_glob (v := .ref XT.aM) (by rfl) XT.gM rfl) pa_nil))))
          (pw_or1 (pt_val (pe_callB (call_isG hz hf) (by rfl) XT.gI (by decide +kernel) (pa_cons (pv 1) (pa_cons (pe_glob (v := .ref XT.aT) (by rfl) XT.gT rfl) pa_nil))))))))) (pss_one (ps_ret (pe_tup (pa_cons pe_str (pa_cons pe_int pa_nil))))) pss_nil)
        (pss_cons (ps_if (pt_val (pe_callB (call_isG hz hf) (by rfl) XT.gI (by decide +kernel) (pa_cons (pv 1) (pa_cons (pe_glob (v := .ref TE.CM) (by rfl) TE.mal.gC rfl) pa_nil))))
          (pss_one (ps_ret (pe_ix (show IxR _ (rIxL K) from ix_list) (pe_lst (pa_cons (pe_tup (pa_cons pe_str (pa_cons (pe_xf (errXf TE.mal) TE.mal.noN hz hf (pv 1)) pa_nil))) (pa_cons (pe_tup (pa_cons pe_str (pa_cons pe_int pa_nil))) pa_nil)))
            (pe_callTy call_int1 (by rfl) XT.int (by decide +kernel) (pa_cons (pe_callB (call_isG hz hf) (by rfl) XT.gI (by decide +kernel) (pa_cons (pv 1) (pa_cons (pe_glob (v := .ref TE.CU) (by rfl) TE.unb.gC rfl) pa_nil))) pa_nil)) (fun _ _ => rfl)))) pss_nil)
        (pss_cons (ps_if (pt_val (pe_callB (call_isG hz hf) (by rfl) XT.gI (by decide +kernel) (pa_cons (pv 1) (pa_cons (pe_glob (v := .ref TE.CU) (by rfl) TE.unb.gC rfl) pa_nil))))
          (pss_one (ps_ret (pe_tup (pa_cons pe_str (pa_cons (pe_xf (errXf TE.unb) TE.unb.noN hz hf (pv 1)) pa_nil))))) pss_nil)
        (pss_one (ps_ret (pe_tup (pa_cons pe_str (pa_cons pe_int pa_nil)))))))))
    (pss_one (ps_ret (pe_tup (pa_cons pe_str (pa_cons pe_int pa_nil))))), ?_⟩
  refine ⟨_, rfl, cs, rfl, hc, ?_⟩
  revert q hno
  cases e : rdg cs with
  | no => exact fun h => absurd rfl h
  | ok u =>
    intro _ q H1 v k1
    refine ⟨(by show 2 ≤ sizeLine; decide), fun p hp => ?_⟩
    exact q _ p (k1.trans (same_new hp _)) upd_same
  | bad er =>
    intro _ q d H1 k1 hd
    cases er with
    | mal k =>
      refine ⟨true, XT.oM.ref, fun _ a ha => ?_, fun z => nomatch z⟩
      refine ⟨_, rfl, TE.CM, d, rfl, rfl, XT.oM.ex, _, _, _, _, rfl, fun u h => h, XT.oM.vE, hd, _, rfl, ?_⟩
      refine if_not_t rfl ?_
      refine ⟨_, rfl, TE.CM, d, rfl, rfl, XT.oM.ex, _, _, _, _, rfl, fun u h => h, XT.oM.nK, hd, _, rfl, ?_⟩
      refine iteF ?_
      refine ⟨_, rfl, TE.CM, d, rfl, rfl, XT.oM.ex, _, _, _, _, rfl, fun u h => h, XT.oM.nM, hd, _, rfl, ?_⟩
      refine iteF ?_
      refine ⟨_, rfl, TE.CM, d, rfl, rfl, XT.oM.ex, _, _, _, _, rfl, fun u h => h, XT.oM.nT, hd, _, rfl, ?_⟩
      refine iteF ?_
      refine ⟨_, rfl, TE.CM, d, rfl, rfl, XT.oM.ex, _, _, _, _, rfl, fun u h => h, XT.mm, hd, _, rfl, ?_⟩
      refine iteT ?_
      refine ⟨_, rfl, rfl, rfl, d, _, _, rfl, hd, rfl, (by show 2 ≤ sizeLine; decide), fun p1 hp1 => ?_⟩
      have s1 := same_new hp1 (.tup [.str "at", .int (k : Int)])
      refine ⟨(by show 2 ≤ sizeLine; decide), fun p2 hp2 => ?_⟩
      have s2 := same_new hp2 (.tup [.str "wrong", .int 0])
      refine ⟨(by show 2 ≤ sizeLine; decide), fun l hl => ?_⟩
      have s3 := same_new hl (.lst [.ref p1, .ref p2])
      have hd := s3 _ _ (s2 _ _ (s1 _ _ hd))
      refine ⟨_, rfl, TE.CM, d, rfl, rfl, XT.oM.ex, _, _, _, _, rfl, fun u h => h, XT.mu, hd, .inr ⟨_, rfl, ?_⟩⟩
      refine ⟨l, _, _, _, rfl, rfl, SqL.of upd_same, ix0, ?_⟩
      exact q _ p1 (((k1.trans s1).trans s2).trans s3) (s3 _ _ (s2 _ _ upd_same))
    | dep =>
      refine ⟨true, XT.oU.ref, fun _ a ha => ?_, fun z => nomatch z⟩
      refine ⟨_, rfl, TE.CU, d, rfl, rfl, XT.oU.ex, _, _, _, _, rfl, fun u h => h, XT.oU.vE, hd, _, rfl, ?_⟩
      refine if_not_t rfl ?_
      refine ⟨_, rfl, TE.CU, d, rfl, rfl, XT.oU.ex, _, _, _, _, rfl, fun u h => h, XT.oU.nK, hd, _, rfl, ?_⟩
      refine iteF ?_
      refine ⟨_, rfl, TE.CU, d, rfl, rfl, XT.oU.ex, _, _, _, _, rfl, fun u h => h, XT.oU.nM, hd, _, rfl, ?_⟩
      refine iteF ?_
      refine ⟨_, rfl, TE.CU, d, rfl, rfl, XT.oU.ex, _, _, _, _, rfl, fun u h => h, XT.oU.nT, hd, _, rfl, ?_⟩
      refine iteF ?_
      refine ⟨_, rfl, TE.CU, d, rfl, rfl, XT.oU.ex, _, _, _, _, rfl, fun u h => h, XT.um, hd, _, rfl, ?_⟩
      refine iteF ?_
      refine ⟨_, rfl, TE.CU, d, rfl, rfl, XT.oU.ex, _, _, _, _, rfl, fun u h => h, XT.uu, hd, _, rfl, ?_⟩
      refine iteT ?_
      refine ⟨_, rfl, rfl, rfl, d, _, _, rfl, hd, rfl, (by show 2 ≤ sizeLine; decide), fun p1 hp1 => ?_⟩
      exact q _ p1 (k1.trans (same_new hp1 _)) upd_same
    | txt =>
      refine ⟨true, XT.oU.ref, fun _ a ha => ?_, fun z => nomatch z⟩
      refine ⟨_, rfl, TE.CU, d, rfl, rfl, XT.oU.ex, _, _, _, _, rfl, fun u h => h, XT.oU.vE, hd, _, rfl, ?_⟩
      refine if_not_t rfl ?_
      refine ⟨_, rfl, TE.CU, d, rfl, rfl, XT.oU.ex, _, _, _, _, rfl, fun u h => h, XT.oU.nK, hd, _, rfl, ?_⟩
      refine iteF ?_
      refine ⟨_, rfl, TE.CU, d, rfl, rfl, XT.oU.ex, _, _, _, _, rfl, fun u h => h, XT.oU.nM, hd, _, rfl, ?_⟩
      refine iteF ?_
      refine ⟨_, rfl, TE.CU, d, rfl, rfl, XT.oU.ex, _, _, _, _, rfl, fun u h => h, XT.oU.nT, hd, _, rfl, ?_⟩
      refine iteF ?_
      refine ⟨_, rfl, TE.CU, d, rfl, rfl, XT.oU.ex, _, _, _, _, rfl, fun u h => h, XT.um, hd, _, rfl, ?_⟩
      refine iteF ?_
      refine ⟨_, rfl, TE.CU, d, rfl, rfl, XT.oU.ex, _, _, _, _, rfl, fun u h => h, XT.uu, hd, _, rfl, ?_⟩
      refine iteT ?_
      refine ⟨_, rfl, rfl, rfl, d, _, _, rfl, hd, rfl, (by show 2 ≤ sizeLine; decide), fun p1 hp1 => ?_⟩
      exact q _ p1 (k1.trans (same_new hp1 _)) upd_same
end
end Af

/-! W18: limit, nested, chains, declared, law. -/
namespace Af
open PySem PySem.Spec PyProof.Rows L2 Afd
def dOut : Out Unit → PyData
  | .ok _ => .tuple [.str "none", .int 0]
  | .bad (.mal k) => .tuple [.str "at", .int (k : Int)]
  | .bad .dep => .tuple [.str "name", .str "depth"]
  | .bad .txt => .tuple [.str "name", .str "text"]
  | .no => .tuple []
theorem dp_out {K : PySem.W.Frag} {H : Hp} {p : Addr} : ∀ {o : Out Unit}, SqT K H p (outV o) → Dp K H (.ref p) (dOut o)
  | .ok _, h => .tup h (.cons (.str _) (.cons (.int _) .nil))
  | .bad (.mal k), h => .tup h (.cons (.str _) (.cons (.int _) .nil))
  | .bad .dep, h => .tup h (.cons (.str _) (.cons (.str _) .nil))
  | .bad .txt, h => .tup h (.cons (.str _) (.cons (.str _) .nil))
  | .no, h => .tup h .nil
theorem sh_out : ∀ (o : Out Unit), SeqAt.shaped (dOut o) = true
  | .ok u => by cases u; decide +kernel
  | .bad (.mal k) => by
    have h1 : PyData.canLay0 (.tuple [.str "at", .int (k : Int)]) = true := by
      have z : PySem.PyData.canLay0 (.str "at") = true := by decide +kernel
      simp only [PyData.canLay0, PyData.canLayAll0] at z ⊢
      rw [z]
      rfl
    show (PyData.canLay0 (.tuple [.str "at", .int (k : Int)]) && decide (PyData.depth (.tuple [.str "at", .int (k : Int)]) ≤ 64)) = true
    rw [h1, Bool.true_and]
    exact decide_eq_true (by simp [PyData.depth, PyData.depthAll])
  | .bad .dep => by decide +kernel
  | .bad .txt => by decide +kernel
  | .no => by decide +kernel
def rOutEq (K : PySem.W.Frag) (b : Bool) : R2 := fun x y H Q => ∃ p q o, x = .ref p ∧ y = .ref q ∧ SqT K H p (outV o) ∧ SqT K H q (outV o) ∧ Q (.bl b) H
theorem op_outEq {X : Cx} (hu : X.A.units + 64 < cLine) : OpR X (compareOp .Eq) (rOutEq X.K true) := by
  intro pins s σ H x y v u Q I rx ry h; obtain ⟨p, q, o, e1, e2, h1, h2, qq⟩ := h
  exact op_eqD hu pins s σ H x y v u Q I rx ry ⟨dOut o, dOut o, by rw [e1]; exact dp_out h1, by rw [e2]; exact dp_out h2, sh_out o, sh_out o, by rw [SeqAt.eqv_refl _ (SeqAt.canLay_of_shaped (sh_out o))]; exact qq⟩
theorem op_outNe {X : Cx} (hu : X.A.units + 64 < cLine) : OpR X (compareOp .NotEq) (rOutEq X.K false) := by
  intro pins s σ H x y v u Q I rx ry h; obtain ⟨p, q, o, e1, e2, h1, h2, qq⟩ := h
  exact op_neD hu pins s σ H x y v u Q I rx ry ⟨dOut o, dOut o, by rw [e1]; exact dp_out h1, by rw [e2]; exact dp_out h2, sh_out o, sh_out o, by rw [SeqAt.eqv_refl _ (SeqAt.canLay_of_shaped (sh_out o))]; exact qq⟩
theorem rep_one (n c : Nat) : rep n [c] = List.replicate n c := by
  induction n with
  | zero => rfl
  | succ n ih =>
    show [c] ++ rep n [c] = _
    rw [ih]
    rfl
section
variable {P : Program} {w : World} {K : PySem.W.Frag} {mg : Str → Option Value} {base : Heap} {TE : ETx P K mg}
structure spLimit (vs : List V) (H : Hp) (Q : VK) (E : XK) : Prop where
  ex : ∃ (cs : Cs) (g : Bool), vs = [.str (S cs), .bl g] ∧ cs.length ≤ 20000 ∧ rdg cs = good g ∧ ∀ H', Same H H' → Q (.bl true) H'
theorem sc_ok_limit : FnScope ["_law_text_here", "_law_is_good", "_law_told"] ["_law_text_here", "_law_is_good"] (defScope (topS 34)) := ⟨rfl, rfl, rfl, by decide +kernel, rfl, by decide +kernel, by decide +kernel⟩
theorem ok_limit (GR : GOk P w K mg base CX0 (GF + 9) "_law_raised" ["_law_text_here"] [] spRaised) (F : GTx K mg 34 "_law_limit" ["_law_text_here", "_law_is_good"]) : GOk P w K mg base CX0 (GF + 10) "_law_limit" ["_law_text_here", "_law_is_good"] [] spLimit := by
  obtain ⟨f, fd, m, b, F⟩ := F
  obtain ⟨f1, fd1, m1, k1, b1, G1⟩ := GR
  refine ⟨f, fd, m, F.kp, b, F.ok sc_ok_limit (fun vs H Q E h => ?_) (fun cdv A outer s H vs Q E hr h => ?_)⟩
  · obtain ⟨cs, g, rfl, _⟩ := h
    rfl
  obtain ⟨cs, g, rfl, hc, hg, q⟩ := h
  refine ⟨_, (pss_cons (ps_set (i := 2) sc_ok_limit.nd rfl (Or.inl rfl) (pe_call G1 (hr.mono (by decide)) (by rfl) m1 k1 b1 .nil pass0 (pa_cons (pv 0) pa_nil)))
    (pss_cons (ps_if (pt_val (pv 1)) (pss_one (ps_ret (pe_cmpR (op_outEq hr.units) (pv 2) (pe_tup (pa_cons pe_str (pa_cons pe_int pa_nil))) (nomark _)))) pss_nil)
    (pss_one (ps_ret (pe_cmpR (op_outEq hr.units) (pv 2) (pe_tup (pa_cons pe_str (pa_cons pe_str pa_nil))) (nomark _)))))), ?_⟩
  refine ⟨_, rfl, cs, rfl, hc, (by rw [hg]; cases g <;> exact fun z => by cases z), fun H1 q1 k1 h1 => ?_⟩
  refine ⟨_, rfl, g, rfl, ?_⟩
  cases g with
  | true =>
    refine iteT ?_
    refine ⟨_, rfl, (by show 2 ≤ sizeLine; decide), fun p hp => ?_⟩
    have s1 := same_new hp (.tup [.str "none", .int 0])
    refine ⟨q1, p, .ok (), rfl, rfl, SqT.of (s1 _ _ (by rw [h1, hg]; rfl)), SqT.of upd_same, ?_⟩
    exact q _ (k1.trans s1)
  | false =>
    refine iteF ?_
    refine ⟨_, rfl, (by show 2 ≤ sizeLine; decide), fun p hp => ?_⟩
    have s1 := same_new hp (.tup [.str "name", .str "depth"])
    refine ⟨q1, p, .bad .dep, rfl, rfl, SqT.of (s1 _ _ (by rw [h1, hg]; rfl)), SqT.of upd_same, ?_⟩
    exact q _ (k1.trans s1)
structure spNested (vs : List V) (H : Hp) (Q : VK) (E : XK) : Prop where
  ex : ∃ (n : Nat), vs = [.int (n : Int)] ∧ n ≤ 200 ∧ Q (.str (S (rep n [40, 105, 110, 116, 44, 32] ++ [98, 111, 111, 108] ++ rep n [41]))) H
theorem sc_ok_nested : FnScope ["_law_many"] ["_law_many"] (defScope (topS 35)) := ⟨rfl, rfl, rfl, by decide +kernel, rfl, by decide +kernel, by decide +kernel⟩
theorem ok_nested  (F : GTx K mg 35 "_law_nested" ["_law_many"]) : GOk P w K mg base CX0 1 "_law_nested" ["_law_many"] [] spNested := by
  obtain ⟨f, fd, m, b, F⟩ := F
  refine ⟨f, fd, m, F.kp, b, F.ok sc_ok_nested (fun vs H Q E h => ?_) (fun cdv A outer s H vs Q E hr h => ?_)⟩
  · obtain ⟨n, rfl, _⟩ := h
    rfl
  obtain ⟨n, rfl, hn, q⟩ := h
  refine ⟨_, (pss_one (ps_ret (pe_op op_catS (pe_op op_catS (pe_op op_repS pe_str (pv 0)) pe_str) (pe_op op_repS pe_str (pv 0))))), ?_⟩
  refine ⟨_, rfl, [40, 105, 110, 116, 44, 32], n, by rfl, rfl, by simp <;> omega, by omega, ?_⟩
  refine ⟨_, [98, 111, 111, 108], rfl, by rfl, by simp [rep_len] <;> omega, ?_⟩
  refine ⟨_, rfl, [41], n, by rfl, rfl, by simp <;> omega, by omega, ?_⟩
  refine ⟨_, _, rfl, rfl, by simp [rep_len] <;> omega, ?_⟩
  exact q
structure spDecl (vs : List V) (H : Hp) (Q : VK) (E : XK) : Prop where
  ex : ∃ (t : Tr), vs = [.str (S t.cs)] ∧ t.dep ≤ 3 ∧ ∀ H', Same H H' → Q (.bl true) H'
theorem sc_ok_decl : FnScope ["_law_text_here"] ["_law_text_here"] (defScope (topS 37)) := ⟨rfl, rfl, rfl, by decide +kernel, rfl, by decide +kernel, by decide +kernel⟩
theorem ok_decl (GR : GOk P w K mg base CX0 (GF + 9) "_law_raised" ["_law_text_here"] [] spRaised) (F : GTx K mg 37 "_law_declared" ["_law_text_here"]) : GOk P w K mg base CX0 (GF + 10) "_law_declared" ["_law_text_here"] [] spDecl := by
  obtain ⟨f, fd, m, b, F⟩ := F
  obtain ⟨f1, fd1, m1, k1, b1, G1⟩ := GR
  refine ⟨f, fd, m, F.kp, b, F.ok sc_ok_decl (fun vs H Q E h => ?_) (fun cdv A outer s H vs Q E hr h => ?_)⟩
  · obtain ⟨t, rfl, _⟩ := h
    rfl
  obtain ⟨t, rfl, ht, q⟩ := h
  refine ⟨_, (pss_cons (ps_if (PW.pt (pw_or (pt_cmpR (op_outNe hr.units) (pe_call G1 (hr.mono (by decide)) (by rfl) m1 k1 b1 .nil pass0 (pa_cons (pe_op op_catS pe_str (pv 0)) pa_nil)) (pe_tup (pa_cons pe_str (pa_cons pe_int pa_nil))) (nomark _)) (pw_or1 (pt_cmpR (op_outNe hr.units) (pe_call G1 (hr.mono (by decide)) (by rfl) m1 k1 b1 .nil pass0 (pa_cons pe_str pa_nil)) (pe_tup (pa_cons pe_str (pa_cons pe_int pa_nil))) (nomark _))))) (pss_one (ps_ret pe_bl)) pss_nil)
    (pss_cons (ps_if (PW.pt (pw_or (pt_cmpR op_ne (pe_ix ix_tup (pe_call G1 (hr.mono (by decide)) (by rfl) m1 k1 b1 .nil pass0 (pa_cons (pe_op op_catS (pe_op op_catS pe_str (pv 0)) pe_str) pa_nil)) pe_int (fun _ _ => rfl)) pe_str (nomark _)) (pw_or1 (pt_cmpR (op_outNe hr.units) (pe_call G1 (hr.mono (by decide)) (by rfl) m1 k1 b1 .nil pass0 (pa_cons pe_str pa_nil)) (pe_tup (pa_cons pe_str (pa_cons pe_int pa_nil))) (nomark _))))) (pss_one (ps_ret pe_bl)) pss_nil)
    (pss_cons (ps_if (PW.pt (pw_or (pt_cmpR (op_outNe hr.units) (pe_call G1 (hr.mono (by decide)) (by rfl) m1 k1 b1 .nil pass0 (pa_cons pe_str pa_nil)) (pe_tup (pa_cons pe_str (pa_cons pe_int pa_nil))) (nomark _)) (pw_or1 (pt_cmpR (op_outNe hr.units) (pe_call G1 (hr.mono (by decide)) (by rfl) m1 k1 b1 .nil pass0 (pa_cons pe_str pa_nil)) (pe_tup (pa_cons pe_str (pa_cons pe_int pa_nil))) (nomark _))))) (pss_one (ps_ret pe_bl)) pss_nil)
    (pss_one (ps_ret (pe_cmpR (op_outEq hr.units) (pe_call G1 (hr.mono (by decide)) (by rfl) m1 k1 b1 .nil pass0 (pa_cons pe_str pa_nil)) (pe_tup (pa_cons pe_str (pa_cons pe_int pa_nil))) (nomark _))))))), ?_⟩
  have lt := len_945 t ht
  have K0 := Same.refl H
  refine ⟨_, rfl, [101, 102, 102, 101, 99, 116, 32, 111, 32, 58, 32, 105, 110, 116, 32, 45, 62, 32, 98, 111, 111, 108, 59, 32], t.cs, by rfl, rfl, by simp <;> omega, ?_⟩
  have E1 : rdg (([101, 102, 102, 101, 99, 116, 32, 111, 32, 58, 32, 105, 110, 116, 32, 45, 62, 32, 98, 111, 111, 108, 59, 32] ++ t.cs)) = (.ok ()) := law_effect ht
  refine ⟨([101, 102, 102, 101, 99, 116, 32, 111, 32, 58, 32, 105, 110, 116, 32, 45, 62, 32, 98, 111, 111, 108, 59, 32] ++ t.cs), rfl, (by simp <;> omega), (by rw [E1]; exact fun z => nomatch z), fun H1 q1 k1 h1 => ?_⟩
  refine ⟨(by show 2 ≤ sizeLine; decide), fun p1 hp1 => ?_⟩
  refine ⟨q1, p1, (.ok ()), rfl, rfl, SqT.of (same_new hp1 _ _ _ (by rw [h1, E1])), SqT.of upd_same, _, rfl, iteF ?_⟩
  have K1 := K0.trans (k1.trans (same_new hp1 (.tup (outV (.ok ())))))
  have E2 : rdg ((Afd.cs "effect o int -> bool; 1")) = (.bad (.mal 9)) := law_d1
  refine ⟨(Afd.cs "effect o int -> bool; 1"), (by decide +kernel), (by decide), (by rw [E2]; exact fun z => nomatch z), fun H2 q2 k2 h2 => ?_⟩
  refine ⟨(by show 2 ≤ sizeLine; decide), fun p2 hp2 => ?_⟩
  refine ⟨q2, p2, (.bad (.mal 9)), rfl, rfl, SqT.of (same_new hp2 _ _ _ (by rw [h2, E2])), SqT.of upd_same, _, rfl, iteF ?_⟩
  have K2 := K1.trans (k2.trans (same_new hp2 (.tup (outV (.bad (.mal 9))))))
  refine ⟨_, rfl, [101, 102, 102, 101, 99, 116, 32, 111, 32, 58, 32, 105, 110, 116, 32, 45, 62, 32, 98, 111, 111, 108, 32], t.cs, by rfl, rfl, by simp <;> omega, ?_⟩
  refine ⟨([101, 102, 102, 101, 99, 116, 32, 111, 32, 58, 32, 105, 110, 116, 32, 45, 62, 32, 98, 111, 111, 108, 32] ++ t.cs), [32, 59], rfl, by rfl, by simp <;> omega, ?_⟩
  obtain ⟨kx, EX⟩ := law_nosemi ht
  refine ⟨[101, 102, 102, 101, 99, 116, 32, 111, 32, 58, 32, 105, 110, 116, 32, 45, 62, 32, 98, 111, 111, 108, 32] ++ t.cs ++ [32, 59], rfl, (by simp <;> omega), (by rw [EX]; exact fun z => nomatch z), fun HX qX kX hX => ?_⟩
  rw [EX] at hX
  refine ⟨qX, _, 0, _, rfl, rfl, SqT.of hX, rfl, rfl, _, rfl, ?_⟩
  refine if_not_t (decide_eq_true rfl) ?_
  have KX := K2.trans kX
  have E3 : rdg ((Afd.cs "effect if : int -> int; 1")) = (.bad (.mal 7)) := law_d2
  refine ⟨(Afd.cs "effect if : int -> int; 1"), (by decide +kernel), (by decide), (by rw [E3]; exact fun z => nomatch z), fun H3 q3 k3 h3 => ?_⟩
  refine ⟨(by show 2 ≤ sizeLine; decide), fun p3 hp3 => ?_⟩
  refine ⟨q3, p3, (.bad (.mal 7)), rfl, rfl, SqT.of (same_new hp3 _ _ _ (by rw [h3, E3])), SqT.of upd_same, _, rfl, iteF ?_⟩
  have K3 := KX.trans (k3.trans (same_new hp3 (.tup (outV (.bad (.mal 7))))))
  have E4 : rdg ((Afd.cs "effect o : (int -> bool); 1")) = (.bad (.mal 16)) := law_d3
  refine ⟨(Afd.cs "effect o : (int -> bool); 1"), (by decide +kernel), (by decide), (by rw [E4]; exact fun z => nomatch z), fun H4 q4 k4 h4 => ?_⟩
  refine ⟨(by show 2 ≤ sizeLine; decide), fun p4 hp4 => ?_⟩
  refine ⟨q4, p4, (.bad (.mal 16)), rfl, rfl, SqT.of (same_new hp4 _ _ _ (by rw [h4, E4])), SqT.of upd_same, _, rfl, iteF ?_⟩
  have K4 := K3.trans (k4.trans (same_new hp4 (.tup (outV (.bad (.mal 16))))))
  have E5 : rdg ((Afd.cs "effect o : int -> x; 1")) = (.bad (.mal 18)) := law_d4
  refine ⟨(Afd.cs "effect o : int -> x; 1"), (by decide +kernel), (by decide), (by rw [E5]; exact fun z => nomatch z), fun H5 q5 k5 h5 => ?_⟩
  refine ⟨(by show 2 ≤ sizeLine; decide), fun p5 hp5 => ?_⟩
  refine ⟨q5, p5, (.bad (.mal 18)), rfl, rfl, SqT.of (same_new hp5 _ _ _ (by rw [h5, E5])), SqT.of upd_same, _, rfl, iteF ?_⟩
  have K5 := K4.trans (k5.trans (same_new hp5 (.tup (outV (.bad (.mal 18))))))
  have E6 : rdg ((Afd.cs "effect o : int -> int;")) = (.bad (.mal 22)) := law_d5
  refine ⟨(Afd.cs "effect o : int -> int;"), (by decide +kernel), (by decide), (by rw [E6]; exact fun z => nomatch z), fun H6 q6 k6 h6 => ?_⟩
  refine ⟨(by show 2 ≤ sizeLine; decide), fun p6 hp6 => ?_⟩
  refine ⟨q6, p6, (.bad (.mal 22)), rfl, rfl, SqT.of (same_new hp6 _ _ _ (by rw [h6, E6])), SqT.of upd_same, ?_⟩
  have K6 := K5.trans (k6.trans (same_new hp6 (.tup (outV (.bad (.mal 22))))))
  exact q _ K6
theorem dec_lt (r : Nat) (n : Nat) : decide ((24 : Int) + (r : Int) < (n : Int)) = decide (24 + r < n) := decide_eq_decide.mpr (by omega)
structure spChains (vs : List V) (H : Hp) (Q : VK) (E : XK) : Prop where
  ex : ∃ (H0 : Hp) (l : Addr) (k : Nat), vs = [.ref l] ∧ StAt H0 H l k ∧ k ≤ 900 ∧ ∀ H', Q (.bl true) H'
theorem sc_ok_chains : FnScope ["_law_state_here", "_law_many"] ["_law_state_here"] (defScope (topS 36)) := ⟨rfl, rfl, rfl, by decide +kernel, rfl, by decide +kernel, by decide +kernel⟩
theorem ok_chains (GL : GOk P w K mg base CX0 (GF + 10) "_law_limit" ["_law_text_here", "_law_is_good"] [] spLimit) (GT : GOk P w K mg base CX0 1 "_law_take" ["_law_state_here", "_law_most"] [] spPick) (GN : GOk P w K mg base CX0 1 "_law_nested" ["_law_many"] [] spNested) (F : GTx K mg 36 "_law_chains" ["_law_state_here"]) : GOk P w K mg base CX0 (GF + 11) "_law_chains" ["_law_state_here"] [] spChains := by
  obtain ⟨f, fd, m, b, F⟩ := F
  obtain ⟨f1, fd1, m1, k1, b1, G1⟩ := GL
  obtain ⟨f2, fd2, m2, k2, b2, G2⟩ := GT
  obtain ⟨f3, fd3, m3, k3, b3, G3⟩ := GN
  refine ⟨f, fd, m, F.kp, b, F.ok sc_ok_chains (fun vs H Q E h => ?_) (fun cdv A outer s H vs Q E hr h => ?_)⟩
  · obtain ⟨H0, l, k, rfl, _⟩ := h
    rfl
  obtain ⟨H0, l, k, rfl, hS, hk, q⟩ := h
  refine ⟨_, (pss_cons (ps_set (i := 1) sc_ok_chains.nd rfl (Or.inl rfl) (pe_op op_add pe_int (pe_call G2 (hr.mono (by decide)) (by rfl) m2 k2 b2 .nil pass0 (pa_cons (pv 0) (pa_cons pe_int pa_nil)))))
    (pss_cons (ps_if (pt_not (pt_val (pe_call G1 (hr.mono (by decide)) (by rfl) m1 k1 b1 .nil pass0 (pa_cons (pe_op op_catS (pe_op op_catS (pe_op op_repS pe_str (pv 1)) pe_str) (pe_op op_repS pe_str (pv 1))) (pa_cons (pe_cmpR op_lt (pv 1) pe_int (nomark _)) pa_nil))))) (pss_one (ps_ret pe_bl)) pss_nil)
    (pss_cons (ps_if (PW.pt (pw_or (pt_not (pt_val (pe_call G1 (hr.mono (by decide)) (by rfl) m1 k1 b1 .nil pass0 (pa_cons (pe_op op_catS (pe_op op_repS pe_str (pe_op op_add (pv 1) pe_int)) pe_str) (pa_cons (pe_cmpR op_lt (pv 1) pe_int (nomark _)) pa_nil))))) (pw_or1 (pt_not (pt_val (pe_call G1 (hr.mono (by decide)) (by rfl) m1 k1 b1 .nil pass0 (pa_cons (pe_op op_catS (pe_op op_repS pe_str (pe_op op_add (pv 1) pe_int)) pe_str) (pa_cons (pe_cmpR op_lt (pv 1) pe_int (nomark _)) pa_nil)))))))) (pss_one (ps_ret pe_bl)) pss_nil)
    (pss_cons (ps_if (PW.pt (pw_or (pt_not (pt_val (pe_call G1 (hr.mono (by decide)) (by rfl) m1 k1 b1 .nil pass0 (pa_cons (pe_op op_catS pe_str (pe_op op_repS pe_str (pe_op op_add (pv 1) pe_int))) (pa_cons (pe_cmpR op_lt (pv 1) pe_int (nomark _)) pa_nil))))) (pw_or1 (pt_not (pt_val (pe_call G1 (hr.mono (by decide)) (by rfl) m1 k1 b1 .nil pass0 (pa_cons (pe_op op_catS pe_str (pe_op op_repS pe_str (pe_op op_add (pv 1) pe_int))) (pa_cons (pe_cmpR op_lt (pv 1) pe_int (nomark _)) pa_nil)))))))) (pss_one (ps_ret pe_bl)) pss_nil)
    (pss_one (ps_ret (pe_call G1 (hr.mono (by decide)) (by rfl) m1 k1 b1 .nil pass0 (pa_cons (pe_op op_catS (pe_op op_catS pe_str (pe_call G3 (hr.mono (by decide)) (by rfl) m3 k3 b3 .nil pass0 (pa_cons (pe_op op_add (pv 1) pe_int) pa_nil))) pe_str) (pa_cons (pe_cmpR op_lt (pv 1) pe_int (nomark _)) pa_nil))))))))), ?_⟩
  refine ⟨_, rfl, H0, l, k, 12, rfl, hS, by decide, by decide, by omega, fun H1 r hr12 _ => ?_⟩
  refine ⟨_, _, rfl, rfl, ?_⟩
  have v30 : ∀ cs : Cs, [V.str (S cs), V.bl (decide ((24 : Int) + (r : Int) < 30))] = [.str (S cs), .bl (decide (24 + r < 30))] := fun cs => by rw [← dec_lt r 30]; rfl
  have v29 : ∀ cs : Cs, [V.str (S cs), V.bl (decide ((24 : Int) + (r : Int) < 29))] = [.str (S cs), .bl (decide (24 + r < 29))] := fun cs => by rw [← dec_lt r 29]; rfl
  refine ⟨_, rfl, [40], 24 + r, by rfl, rfl, by simp <;> omega, by omega, ?_⟩
  refine ⟨_, [120], rfl, by rfl, by simp [rep_len] <;> omega, ?_⟩
  refine ⟨_, rfl, [41], 24 + r, by rfl, rfl, by simp <;> omega, by omega, ?_⟩
  refine ⟨_, _, rfl, rfl, by simp [rep_len] <;> omega, ?_⟩
  refine ⟨_, rfl, _, _, rfl, rfl, ?_⟩
  refine ⟨⟨_, decide (24 + r < 30), v30 _, (by simp [rep_len] <;> omega), law_c1 r hr12, fun H8 k8 => ?_⟩⟩
  refine ⟨_, rfl, ?_⟩
  refine if_not_t rfl ?_
  refine ⟨_, rfl, _, _, rfl, rfl, [110, 111, 116, 32], 24 + r + 30, by rfl, rfl, by simp <;> omega, by omega, ?_⟩
  refine ⟨_, [120], rfl, by rfl, by simp [rep_len] <;> omega, ?_⟩
  refine ⟨_, rfl, _, _, rfl, rfl, ?_⟩
  refine ⟨⟨_, decide (24 + r < 29), v29 _, (by simp [rep_len] <;> omega), law_c2 r hr12, fun H9 k9 => ?_⟩⟩
  refine ⟨_, rfl, ?_⟩
  refine if_not_t rfl ?_
  refine ⟨_, rfl, _, _, rfl, rfl, [97, 115, 107, 32, 111, 32], 24 + r + 30, by rfl, rfl, by simp <;> omega, by omega, ?_⟩
  refine ⟨_, [120], rfl, by rfl, by simp [rep_len] <;> omega, ?_⟩
  refine ⟨_, rfl, _, _, rfl, rfl, ?_⟩
  refine ⟨⟨_, decide (24 + r < 29), v29 _, (by simp [rep_len] <;> omega), law_c3 r hr12, fun H10 k10 => ?_⟩⟩
  refine ⟨_, rfl, ?_⟩
  refine if_not_t rfl ?_
  refine ⟨_, rfl, _, _, rfl, rfl, [32, 43, 32, 49], 24 + r + 30, by rfl, rfl, by simp <;> omega, by omega, ?_⟩
  refine ⟨[49], _, by rfl, rfl, by simp [rep_len] <;> omega, ?_⟩
  refine ⟨_, rfl, _, _, rfl, rfl, ?_⟩
  refine ⟨⟨_, decide (24 + r < 30), v30 _, (by simp [rep_len] <;> omega), law_c4 r hr12, fun H11 k11 => ?_⟩⟩
  refine ⟨_, rfl, ?_⟩
  refine if_not_t rfl ?_
  refine ⟨_, rfl, _, _, rfl, rfl, [32, 120], 24 + r + 30, by rfl, rfl, by simp <;> omega, by omega, ?_⟩
  refine ⟨[102], _, by rfl, rfl, by simp [rep_len] <;> omega, ?_⟩
  refine ⟨_, rfl, _, _, rfl, rfl, ?_⟩
  refine ⟨⟨_, decide (24 + r < 30), v30 _, (by simp [rep_len] <;> omega), law_c5 r hr12, fun H12 k12 => ?_⟩⟩
  refine ⟨_, rfl, ?_⟩
  refine if_not_t rfl ?_
  refine ⟨_, rfl, _, _, rfl, rfl, 24 + r + 30, rfl, by omega, ?_⟩
  refine ⟨[101, 102, 102, 101, 99, 116, 32, 111, 32, 58, 32], _, by rfl, rfl, by simp [rep_len] <;> omega, ?_⟩
  refine ⟨_, [32, 45, 62, 32, 105, 110, 116, 59, 32, 49], rfl, by rfl, by simp [rep_len] <;> omega, ?_⟩
  refine ⟨_, rfl, _, _, rfl, rfl, ?_⟩
  refine ⟨⟨_, decide (24 + r < 30), v30 _, (by simp [rep_len] <;> omega), law_c6 r hr12, fun H13 k13 => ?_⟩⟩
  exact q _
structure spLaw (K : PySem.W.Frag) (vs : List V) (H : Hp) (Q : VK) (E : XK) : Prop where
  ex : ∃ (a : Addr) (ns : List Int), vs = [.ref a] ∧ SqL K H a (ns.map V.int) ∧ ns.length ≤ 63 ∧ ∀ H', Q (.bl true) H'
theorem sc_ok_law : FnScope ["_law_script", "_law_state_here", "_law_text_here", "_law_size"] ["_law_script"] (defScope (topS 38)) := ⟨rfl, rfl, rfl, by decide +kernel, rfl, by decide +kernel, by decide +kernel⟩
theorem ok_law (ml : mg "len" = none) (G1' : GOk P w K mg base CX0 1 "_law_state" ["_law_script"] [] (spState K)) (G2' : GOk P w K mg base CX0 6 "_law_text" ["_law_state_here", "_law_depth"] [] (spText 4)) (G3' : GOk P w K mg base CX0 1 "_law_take" ["_law_state_here", "_law_most"] [] spPick)
    (G4' : GOk P w K mg base CX0 (GF + 9) "_law_raised" ["_law_text_here"] [] spRaised) (G5' : GOk P w K mg base CX0 (GF + 10) "_law_declared" ["_law_text_here"] [] spDecl) (G6' : GOk P w K mg base CX0 (GF + 11) "_law_chains" ["_law_state_here"] [] spChains) {f : Addr} {fd : FuncData} (F : Fun K "law" "law" (topS 38) f fd) : FnOk P w K mg base CX0 (GF + 12) f fd ["_law_script"] (spLaw K) := by
  obtain ⟨f1, fd1, m1, k1, b1, G1⟩ := G1'
  obtain ⟨f2, fd2, m2, k2, b2, G2⟩ := G2'
  obtain ⟨f3, fd3, m3, k3, b3, G3⟩ := G3'
  obtain ⟨f4, fd4, m4, k4, b4, G4⟩ := G4'
  obtain ⟨f5, fd5, m5, k5, b5, G5⟩ := G5'
  obtain ⟨f6, fd6, m6, k6, b6, G6⟩ := G6'
  refine F.ok sc_ok_law (fun vs H Q E h => ?_) (fun cdv A outer s H vs Q E hr h => ?_)
  · obtain ⟨a, ns, rfl, _⟩ := h
    rfl
  obtain ⟨a, ns, rfl, hS, hn, q⟩ := h
  refine ⟨_, (pss_cons (ps_set (i := 1) sc_ok_law.nd rfl (Or.inl rfl) (pe_call G1 (hr.mono (by decide)) (by rfl) m1 k1 b1 .nil pass0 (pa_cons (pv 0) pa_nil)))
    (pss_cons (ps_set (i := 2) sc_ok_law.nd rfl (Or.inl rfl) (pe_call G2 (hr.mono (by decide)) (by rfl) m2 k2 b2 .nil pass0 (pa_cons (pv 1) (pa_cons (pe_op op_add pe_int (pe_call G3 (hr.mono (by decide)) (by rfl) m3 k3 b3 .nil pass0 (pa_cons (pv 1) (pa_cons pe_int pa_nil)))) pa_nil))))
    (pss_cons (ps_set (i := 3) sc_ok_law.nd rfl (Or.inl rfl) (pe_callB call_len_str (by rfl) ml PySem.boot_len (pa_cons (pv 2) pa_nil)))
    (pss_cons (ps_if (PW.pt (pw_or (pt_cmpR (op_outNe hr.units) (pe_call G4 (hr.mono (by decide)) (by rfl) m4 k4 b4 .nil pass0 (pa_cons (pv 2) pa_nil)) (pe_tup (pa_cons pe_str (pa_cons pe_int pa_nil))) (nomark _)) (pw_or (pt_cmpR (op_outNe hr.units) (pe_call G4 (hr.mono (by decide)) (by rfl) m4 k4 b4 .nil pass0 (pa_cons pe_str pa_nil)) (pe_tup (pa_cons pe_str (pa_cons pe_int pa_nil))) (nomark _)) (pw_or1 (pt_cmpR (op_outNe hr.units) (pe_call G4 (hr.mono (by decide)) (by rfl) m4 k4 b4 .nil pass0 (pa_cons (pe_op op_catS (pv 2) pe_str) pa_nil)) (pe_tup (pa_cons pe_str (pa_cons (pe_op op_add (pv 3) pe_int) pa_nil))) (nomark _)))))) (pss_one (ps_ret pe_bl)) pss_nil)
    (pss_cons (ps_if (PW.pt (pw_or (pt_cmpR (op_outNe hr.units) (pe_call G4 (hr.mono (by decide)) (by rfl) m4 k4 b4 .nil pass0 (pa_cons (pe_op op_catS pe_str (pv 2)) pa_nil)) (pe_tup (pa_cons pe_str (pa_cons (pe_op op_add (pv 3) pe_int) pa_nil))) (nomark _)) (pw_or1 (pt_cmpR (op_outNe hr.units) (pe_call G4 (hr.mono (by decide)) (by rfl) m4 k4 b4 .nil pass0 (pa_cons (pe_op op_catS (pv 2) pe_str) pa_nil)) (pe_tup (pa_cons pe_str (pa_cons (pe_op op_add (pv 3) pe_int) pa_nil))) (nomark _))))) (pss_one (ps_ret pe_bl)) pss_nil)
    (pss_cons (ps_if (PW.pt (pw_or (pt_cmpR (op_outNe hr.units) (pe_call G4 (hr.mono (by decide)) (by rfl) m4 k4 b4 .nil pass0 (pa_cons (pe_op op_catS (pv 2) pe_str) pa_nil)) (pe_tup (pa_cons pe_str (pa_cons (pe_op op_add (pv 3) pe_int) pa_nil))) (nomark _)) (pw_or1 (pt_cmpR (op_outNe hr.units) (pe_call G4 (hr.mono (by decide)) (by rfl) m4 k4 b4 .nil pass0 (pa_cons (pe_op op_catS (pv 2) pe_str) pa_nil)) (pe_tup (pa_cons pe_str (pa_cons (pe_op op_add (pv 3) pe_int) pa_nil))) (nomark _))))) (pss_one (ps_ret pe_bl)) pss_nil)
    (pss_cons (ps_if (PW.pt (pw_or (pt_cmpR (op_outNe hr.units) (pe_call G4 (hr.mono (by decide)) (by rfl) m4 k4 b4 .nil pass0 (pa_cons (pe_op op_catS (pv 2) pe_str) pa_nil)) (pe_tup (pa_cons pe_str (pa_cons (pe_op op_add (pv 3) pe_int) pa_nil))) (nomark _)) (pw_or1 (pt_cmpR (op_outNe hr.units) (pe_call G4 (hr.mono (by decide)) (by rfl) m4 k4 b4 .nil pass0 (pa_cons (pe_op op_catS (pv 2) pe_str) pa_nil)) (pe_tup (pa_cons pe_str (pa_cons (pe_op op_add (pv 3) pe_int) pa_nil))) (nomark _))))) (pss_one (ps_ret pe_bl)) pss_nil)
    (pss_cons (ps_if (PW.pt (pw_or (pt_cmpR (op_outNe hr.units) (pe_call G4 (hr.mono (by decide)) (by rfl) m4 k4 b4 .nil pass0 (pa_cons (pe_op op_catS (pv 2) pe_str) pa_nil)) (pe_tup (pa_cons pe_str (pa_cons pe_int pa_nil))) (nomark _)) (pw_or1 (pt_cmpR (op_outNe hr.units) (pe_call G4 (hr.mono (by decide)) (by rfl) m4 k4 b4 .nil pass0 (pa_cons (pe_op op_catS (pe_op op_catS (pv 2) pe_str) (pe_op op_repS pe_str pe_int)) pa_nil)) (pe_tup (pa_cons pe_str (pa_cons (pe_op op_add (pv 3) pe_int) pa_nil))) (nomark _))))) (pss_one (ps_ret pe_bl)) pss_nil)
    (pss_cons (ps_if (PW.pt (pw_or (pt_cmpR (op_outNe hr.units) (pe_call G4 (hr.mono (by decide)) (by rfl) m4 k4 b4 .nil pass0 (pa_cons (pe_op op_catS pe_str (pv 2)) pa_nil)) (pe_tup (pa_cons pe_str (pa_cons pe_int pa_nil))) (nomark _)) (pw_or1 (pt_cmpR (op_outNe hr.units) (pe_call G4 (hr.mono (by decide)) (by rfl) m4 k4 b4 .nil pass0 (pa_cons (pe_op op_catS pe_str (pv 2)) pa_nil)) (pe_tup (pa_cons pe_str (pa_cons pe_int pa_nil))) (nomark _))))) (pss_one (ps_ret pe_bl)) pss_nil)
    (pss_cons (ps_if (PW.pt (pw_or (pt_cmpR (op_outNe hr.units) (pe_call G4 (hr.mono (by decide)) (by rfl) m4 k4 b4 .nil pass0 (pa_cons pe_str pa_nil)) (pe_tup (pa_cons pe_str (pa_cons pe_int pa_nil))) (nomark _)) (pw_or1 (pt_cmpR (op_outNe hr.units) (pe_call G4 (hr.mono (by decide)) (by rfl) m4 k4 b4 .nil pass0 (pa_cons pe_str pa_nil)) (pe_tup (pa_cons pe_str (pa_cons pe_int pa_nil))) (nomark _))))) (pss_one (ps_ret pe_bl)) pss_nil)
    (pss_cons (ps_if (PW.pt (pw_or (pt_cmpR (op_outNe hr.units) (pe_call G4 (hr.mono (by decide)) (by rfl) m4 k4 b4 .nil pass0 (pa_cons (pe_op op_catS pe_str (pe_op op_repS pe_str pe_int)) pa_nil)) (pe_tup (pa_cons pe_str (pa_cons pe_int pa_nil))) (nomark _)) (pw_or1 (pt_cmpR (op_outNe hr.units) (pe_call G4 (hr.mono (by decide)) (by rfl) m4 k4 b4 .nil pass0 (pa_cons (pe_op op_catS pe_str (pe_op op_repS pe_str pe_int)) pa_nil)) (pe_tup (pa_cons pe_str (pa_cons pe_str pa_nil))) (nomark _))))) (pss_one (ps_ret pe_bl)) pss_nil)
    (pss_one (ps_ret (pe_and (pe_call G5 (hr.mono (by decide)) (by rfl) m5 k5 b5 .nil pass0 (pa_cons (pv 2) pa_nil)) (pe_one (pe_call G6 (hr.mono (by decide)) (by rfl) m6 k6 b6 .nil pass0 (pa_cons (pv 1) pa_nil))))))))))))))))), ?_⟩
  refine ⟨_, rfl, a, ns, rfl, hS, hn, fun Ha l Sa => ?_⟩
  refine ⟨_, rfl, _, rfl, H, l, 0, 3, rfl, Sa, by decide, by decide, by decide, fun Hb r hr3 Sb => ?_⟩
  refine ⟨_, _, rfl, rfl, H, l, 1, 1 + r, rfl, by omega, by omega, Sb, ?_, fun Hc t ht Sc => ?_⟩
  · have z : 4 ^ (1 + r) ≤ 4 ^ 3 := Nat.pow_le_pow_right (by decide) (by omega)
    have z2 : (4 : Nat) ^ 3 = 64 := by decide
    omega
  have htd : t.dep ≤ 3 := by omega
  have lt := len_945 t htd
  refine ⟨_, rfl, S t.cs, rfl, line_of (by rw [S_len]; omega), ?_⟩
  rw [S_len]
  have K0 := Same.refl Hc
  refine ⟨_, rfl, ?_⟩
  have E13 : rdg (t.cs) = (.ok ()) := law_good htd
  refine ⟨t.cs, rfl, (by omega), (by rw [E13]; exact fun z => nomatch z), fun H13 q13 k13 h13 => ?_⟩
  refine ⟨(by show 2 ≤ sizeLine; decide), fun p13 hp13 => ?_⟩
  refine ⟨q13, p13, (.ok ()), rfl, rfl, SqT.of (same_new hp13 _ _ _ (by rw [h13, E13])), SqT.of upd_same, _, rfl, iteF ?_⟩
  have K13 := K0.trans (k13.trans (same_new hp13 (.tup (outV (.ok ())))))
  have E14 : rdg ([]) = (.bad (.mal 0)) := law_empty
  refine ⟨[], (by rfl), (by decide), (by rw [E14]; exact fun z => nomatch z), fun H14 q14 k14 h14 => ?_⟩
  refine ⟨(by show 2 ≤ sizeLine; decide), fun p14 hp14 => ?_⟩
  refine ⟨q14, p14, (.bad (.mal 0)), rfl, rfl, SqT.of (same_new hp14 _ _ _ (by rw [h14, E14])), SqT.of upd_same, _, rfl, iteF ?_⟩
  have K14 := K13.trans (k14.trans (same_new hp14 (.tup (outV (.bad (.mal 0))))))
  refine ⟨_, rfl, t.cs, [32, 41], rfl, by rfl, by simp <;> omega, ?_⟩
  have E15 : rdg ((t.cs ++ [32, 41])) = (.bad (.mal (t.cs.length + 1))) := law_close htd
  refine ⟨(t.cs ++ [32, 41]), rfl, (by simp <;> omega), (by rw [E15]; exact fun z => nomatch z), fun H15 q15 k15 h15 => ?_⟩
  refine ⟨_, rfl, _, _, rfl, rfl, (by show 2 ≤ sizeLine; decide), fun p15 hp15 => ?_⟩
  refine ⟨q15, p15, (.bad (.mal (t.cs.length + 1))), rfl, rfl, SqT.of (same_new hp15 _ _ _ (by rw [h15, E15])), SqT.of upd_same, _, rfl, iteF ?_⟩
  have K15 := K14.trans (k15.trans (same_new hp15 (.tup (outV (.bad (.mal (t.cs.length + 1)))))))
  refine ⟨_, rfl, [40, 32], t.cs, by rfl, rfl, by simp <;> omega, ?_⟩
  have E16 : rdg (([40, 32] ++ t.cs)) = (.bad (.mal (t.cs.length + 2))) := law_open htd
  refine ⟨([40, 32] ++ t.cs), rfl, (by simp <;> omega), (by rw [E16]; exact fun z => nomatch z), fun H16 q16 k16 h16 => ?_⟩
  refine ⟨_, rfl, _, _, rfl, rfl, (by show 2 ≤ sizeLine; decide), fun p16 hp16 => ?_⟩
  refine ⟨q16, p16, (.bad (.mal (t.cs.length + 2))), rfl, rfl, SqT.of (same_new hp16 _ _ _ (by rw [h16, E16])), SqT.of upd_same, _, rfl, iteF ?_⟩
  have K16 := K15.trans (k16.trans (same_new hp16 (.tup (outV (.bad (.mal (t.cs.length + 2)))))))
  refine ⟨_, rfl, t.cs, [32, 43], rfl, by rfl, by simp <;> omega, ?_⟩
  have E17 : rdg ((t.cs ++ [32, 43])) = (.bad (.mal (t.cs.length + 2))) := law_plus htd
  refine ⟨(t.cs ++ [32, 43]), rfl, (by simp <;> omega), (by rw [E17]; exact fun z => nomatch z), fun H17 q17 k17 h17 => ?_⟩
  refine ⟨_, rfl, _, _, rfl, rfl, (by show 2 ≤ sizeLine; decide), fun p17 hp17 => ?_⟩
  refine ⟨q17, p17, (.bad (.mal (t.cs.length + 2))), rfl, rfl, SqT.of (same_new hp17 _ _ _ (by rw [h17, E17])), SqT.of upd_same, _, rfl, iteF ?_⟩
  have K17 := K16.trans (k17.trans (same_new hp17 (.tup (outV (.bad (.mal (t.cs.length + 2)))))))
  refine ⟨_, rfl, t.cs, [32, 36, 32, 49], rfl, by rfl, by simp <;> omega, ?_⟩
  have E18 : rdg ((t.cs ++ [32, 36, 32, 49])) = (.bad (.mal (t.cs.length + 1))) := law_dollar htd
  refine ⟨(t.cs ++ [32, 36, 32, 49]), rfl, (by simp <;> omega), (by rw [E18]; exact fun z => nomatch z), fun H18 q18 k18 h18 => ?_⟩
  refine ⟨_, rfl, _, _, rfl, rfl, (by show 2 ≤ sizeLine; decide), fun p18 hp18 => ?_⟩
  refine ⟨q18, p18, (.bad (.mal (t.cs.length + 1))), rfl, rfl, SqT.of (same_new hp18 _ _ _ (by rw [h18, E18])), SqT.of upd_same, _, rfl, iteF ?_⟩
  have K18 := K17.trans (k18.trans (same_new hp18 (.tup (outV (.bad (.mal (t.cs.length + 1)))))))
  refine ⟨_, rfl, t.cs, [32, 42, 32, 48, 55], rfl, by rfl, by simp <;> omega, ?_⟩
  have E19 : rdg ((t.cs ++ [32, 42, 32, 48, 55])) = (.bad (.mal (t.cs.length + 3))) := law_lead htd
  refine ⟨(t.cs ++ [32, 42, 32, 48, 55]), rfl, (by simp <;> omega), (by rw [E19]; exact fun z => nomatch z), fun H19 q19 k19 h19 => ?_⟩
  refine ⟨_, rfl, _, _, rfl, rfl, (by show 2 ≤ sizeLine; decide), fun p19 hp19 => ?_⟩
  refine ⟨q19, p19, (.bad (.mal (t.cs.length + 3))), rfl, rfl, SqT.of (same_new hp19 _ _ _ (by rw [h19, E19])), SqT.of upd_same, _, rfl, iteF ?_⟩
  have K19 := K18.trans (k19.trans (same_new hp19 (.tup (outV (.bad (.mal (t.cs.length + 3)))))))
  refine ⟨_, rfl, t.cs, [32, 42, 32, 51, 97], rfl, by rfl, by simp <;> omega, ?_⟩
  have E20 : rdg ((t.cs ++ [32, 42, 32, 51, 97])) = (.bad (.mal (t.cs.length + 3))) := law_3a htd
  refine ⟨(t.cs ++ [32, 42, 32, 51, 97]), rfl, (by simp <;> omega), (by rw [E20]; exact fun z => nomatch z), fun H20 q20 k20 h20 => ?_⟩
  refine ⟨_, rfl, _, _, rfl, rfl, (by show 2 ≤ sizeLine; decide), fun p20 hp20 => ?_⟩
  refine ⟨q20, p20, (.bad (.mal (t.cs.length + 3))), rfl, rfl, SqT.of (same_new hp20 _ _ _ (by rw [h20, E20])), SqT.of upd_same, _, rfl, iteF ?_⟩
  have K20 := K19.trans (k20.trans (same_new hp20 (.tup (outV (.bad (.mal (t.cs.length + 3)))))))
  refine ⟨_, rfl, t.cs, [32, 42, 32, 50, 49, 52, 55, 52, 56, 51, 54, 52, 56], rfl, by rfl, by simp <;> omega, ?_⟩
  have E21 : rdg ((t.cs ++ [32, 42, 32, 50, 49, 52, 55, 52, 56, 51, 54, 52, 56])) = (.bad (.mal (t.cs.length + 3))) := law_big htd
  refine ⟨(t.cs ++ [32, 42, 32, 50, 49, 52, 55, 52, 56, 51, 54, 52, 56]), rfl, (by simp <;> omega), (by rw [E21]; exact fun z => nomatch z), fun H21 q21 k21 h21 => ?_⟩
  refine ⟨_, rfl, _, _, rfl, rfl, (by show 2 ≤ sizeLine; decide), fun p21 hp21 => ?_⟩
  refine ⟨q21, p21, (.bad (.mal (t.cs.length + 3))), rfl, rfl, SqT.of (same_new hp21 _ _ _ (by rw [h21, E21])), SqT.of upd_same, _, rfl, iteF ?_⟩
  have K21 := K20.trans (k21.trans (same_new hp21 (.tup (outV (.bad (.mal (t.cs.length + 3)))))))
  refine ⟨_, rfl, t.cs, [32, 42, 32, 50, 49, 52, 55, 52, 56, 51, 54, 52, 55], rfl, by rfl, by simp <;> omega, ?_⟩
  have E22 : rdg ((t.cs ++ [32, 42, 32, 50, 49, 52, 55, 52, 56, 51, 54, 52, 55])) = (.ok ()) := law_most htd
  refine ⟨(t.cs ++ [32, 42, 32, 50, 49, 52, 55, 52, 56, 51, 54, 52, 55]), rfl, (by simp <;> omega), (by rw [E22]; exact fun z => nomatch z), fun H22 q22 k22 h22 => ?_⟩
  refine ⟨(by show 2 ≤ sizeLine; decide), fun p22 hp22 => ?_⟩
  refine ⟨q22, p22, (.ok ()), rfl, rfl, SqT.of (same_new hp22 _ _ _ (by rw [h22, E22])), SqT.of upd_same, _, rfl, iteF ?_⟩
  have K22 := K21.trans (k22.trans (same_new hp22 (.tup (outV (.ok ())))))
  refine ⟨_, rfl, t.cs, [32, 60, 32], rfl, by rfl, by simp <;> omega, ?_⟩
  refine ⟨[97], 21, by rfl, rfl, by decide, by decide, ?_⟩
  refine ⟨_, _, rfl, rfl, by simp [rep_len] <;> omega, ?_⟩
  have E23 : rdg (((t.cs ++ [32, 60, 32]) ++ Afd.rep 21 [97])) = (.bad (.mal (t.cs.length + 3))) := (by rw [rep_one, List.append_assoc]; exact law_long htd)
  refine ⟨((t.cs ++ [32, 60, 32]) ++ Afd.rep 21 [97]), rfl, (by simp [rep_len] <;> omega), (by rw [E23]; exact fun z => nomatch z), fun H23 q23 k23 h23 => ?_⟩
  refine ⟨_, rfl, _, _, rfl, rfl, (by show 2 ≤ sizeLine; decide), fun p23 hp23 => ?_⟩
  refine ⟨q23, p23, (.bad (.mal (t.cs.length + 3))), rfl, rfl, SqT.of (same_new hp23 _ _ _ (by rw [h23, E23])), SqT.of upd_same, _, rfl, iteF ?_⟩
  have K23 := K22.trans (k23.trans (same_new hp23 (.tup (outV (.bad (.mal (t.cs.length + 3)))))))
  refine ⟨_, rfl, [102, 117, 110, 32, 120, 32, 61, 32], t.cs, by rfl, rfl, by simp <;> omega, ?_⟩
  have E24 : rdg (([102, 117, 110, 32, 120, 32, 61, 32] ++ t.cs)) = (.bad (.mal 6)) := law_fun htd
  refine ⟨([102, 117, 110, 32, 120, 32, 61, 32] ++ t.cs), rfl, (by simp <;> omega), (by rw [E24]; exact fun z => nomatch z), fun H24 q24 k24 h24 => ?_⟩
  refine ⟨(by show 2 ≤ sizeLine; decide), fun p24 hp24 => ?_⟩
  refine ⟨q24, p24, (.bad (.mal 6)), rfl, rfl, SqT.of (same_new hp24 _ _ _ (by rw [h24, E24])), SqT.of upd_same, _, rfl, iteF ?_⟩
  have K24 := K23.trans (k24.trans (same_new hp24 (.tup (outV (.bad (.mal 6))))))
  refine ⟨_, rfl, [108, 101, 116, 32, 105, 110, 32, 61, 32, 49, 32, 105, 110, 32], t.cs, by rfl, rfl, by simp <;> omega, ?_⟩
  have E25 : rdg (([108, 101, 116, 32, 105, 110, 32, 61, 32, 49, 32, 105, 110, 32] ++ t.cs)) = (.bad (.mal 4)) := law_let htd
  refine ⟨([108, 101, 116, 32, 105, 110, 32, 61, 32, 49, 32, 105, 110, 32] ++ t.cs), rfl, (by simp <;> omega), (by rw [E25]; exact fun z => nomatch z), fun H25 q25 k25 h25 => ?_⟩
  refine ⟨(by show 2 ≤ sizeLine; decide), fun p25 hp25 => ?_⟩
  refine ⟨q25, p25, (.bad (.mal 4)), rfl, rfl, SqT.of (same_new hp25 _ _ _ (by rw [h25, E25])), SqT.of upd_same, _, rfl, iteF ?_⟩
  have K25 := K24.trans (k25.trans (same_new hp25 (.tup (outV (.bad (.mal 4))))))
  have E26 : rdg ((Afd.cs "1 == 2 == 3")) = (.bad (.mal 7)) := law_eqeq
  refine ⟨(Afd.cs "1 == 2 == 3"), (by decide +kernel), (by decide), (by rw [E26]; exact fun z => nomatch z), fun H26 q26 k26 h26 => ?_⟩
  refine ⟨(by show 2 ≤ sizeLine; decide), fun p26 hp26 => ?_⟩
  refine ⟨q26, p26, (.bad (.mal 7)), rfl, rfl, SqT.of (same_new hp26 _ _ _ (by rw [h26, E26])), SqT.of upd_same, _, rfl, iteF ?_⟩
  have K26 := K25.trans (k26.trans (same_new hp26 (.tup (outV (.bad (.mal 7))))))
  have E27 : rdg ((Afd.cs "handle 1 { o y k => 1 }")) = (.bad (.mal 11)) := law_handle
  refine ⟨(Afd.cs "handle 1 { o y k => 1 }"), (by decide +kernel), (by decide), (by rw [E27]; exact fun z => nomatch z), fun H27 q27 k27 h27 => ?_⟩
  refine ⟨(by show 2 ≤ sizeLine; decide), fun p27 hp27 => ?_⟩
  refine ⟨q27, p27, (.bad (.mal 11)), rfl, rfl, SqT.of (same_new hp27 _ _ _ (by rw [h27, E27])), SqT.of upd_same, _, rfl, iteF ?_⟩
  have K27 := K26.trans (k27.trans (same_new hp27 (.tup (outV (.bad (.mal 11))))))
  refine ⟨[32], 9999, by rfl, rfl, by decide, by decide, ?_⟩
  refine ⟨[49], _, by rfl, rfl, by simp [rep_len], ?_⟩
  have E28 : rdg (([49] ++ Afd.rep 9999 [32])) = (.ok ()) := (by rw [rep_one]; exact law_spaces)
  refine ⟨([49] ++ Afd.rep 9999 [32]), rfl, (by simp [rep_len]), (by rw [E28]; exact fun z => nomatch z), fun H28 q28 k28 h28 => ?_⟩
  refine ⟨(by show 2 ≤ sizeLine; decide), fun p28 hp28 => ?_⟩
  refine ⟨q28, p28, (.ok ()), rfl, rfl, SqT.of (same_new hp28 _ _ _ (by rw [h28, E28])), SqT.of upd_same, _, rfl, iteF ?_⟩
  have K28 := K27.trans (k28.trans (same_new hp28 (.tup (outV (.ok ())))))
  refine ⟨[32], 10000, by rfl, rfl, by decide, by decide, ?_⟩
  refine ⟨[49], _, by rfl, rfl, by simp [rep_len], ?_⟩
  have E29 : rdg (([49] ++ Afd.rep 10000 [32])) = (.bad .txt) := (by rw [rep_one]; exact law_toolong)
  refine ⟨([49] ++ Afd.rep 10000 [32]), rfl, (by simp [rep_len]), (by rw [E29]; exact fun z => nomatch z), fun H29 q29 k29 h29 => ?_⟩
  refine ⟨(by show 2 ≤ sizeLine; decide), fun p29 hp29 => ?_⟩
  refine ⟨q29, p29, (.bad .txt), rfl, rfl, SqT.of (same_new hp29 _ _ _ (by rw [h29, E29])), SqT.of upd_same, _, rfl, iteF ?_⟩
  have K29 := K28.trans (k29.trans (same_new hp29 (.tup (outV (.bad .txt)))))
  refine ⟨_, rfl, t, rfl, htd, fun Hz kz => ?_⟩
  refine ⟨_, rfl, iteT ?_⟩
  exact ⟨_, rfl, H, l, _, rfl, Sc.same (K29.trans kz), (by
    have z : 4 ^ (1 + r) ≤ 4 ^ 3 := Nat.pow_le_pow_right (by decide) (by omega)
    have z2 : (4 : Nat) ^ 3 = 64 := by decide
    omega), q⟩
end
end Af

/-! W19: from what the top has written to the law. -/
namespace Af
open PySem PySem.Spec PyProof.Rows L2 Afd
section
variable {w : World} {K : PySem.W.Frag} {h : Heap} {mg : Str → Option Value}
theorem gtx {i : Nat} {x : Str} {ps : List Str} {f : Addr} {oc kV dc pm cd ct : Value} {od an : Option Addr} {sl : Array (Option Value)} (X : K.In h) (G : h.Ns mainGlobals mg) (a : PySem.W.nsIn K mainGlobals x = some (some (.ref f)))
    (l : K.lookup f = some ⟨oc, od, .func (PySem.W.fnOf x x (defArgs (topS i)) (defBody (topS i)) (defScope (topS i)) .none kV dc pm an cd ct), sl⟩) (c : PySem.W.codeIn K cd x = true) (k : PySem.W.keepIn K (.ref f) = true)
    (hb : ∀ (kV doc pm : Value) (an : Option Addr) (cdv ct : Value) (us : List Value), us.length = ps.length → bindArgs (PySem.W.fnOf x x (defArgs (topS i)) (defBody (topS i)) (defScope (topS i)) .none kV doc pm an cdv ct) ⟨us, []⟩ = pure (ps.zip us)) : GTx K mg i x ps :=
  ⟨f, _, PySem.W.mg_of X G a, (fun_mk l c k).binds hb, fun_mk l c k⟩
theorem mtx {j : Nat} {x q : Str} {ps : List Str} {C f : Addr} {oc kV dc pm cd ct : Value} {od an : Option Addr} {sl : Array (Option Value)} (a : PySem.W.findIn K (.ref C) x = some (some (.ref f))) (i : PySem.W.isFn K (.ref f) = true)
    (l : K.lookup f = some ⟨oc, od, .func (PySem.W.fnOf x q (defArgs (meS j)) (defBody (meS j)) (defScope (meS j)) .none kV dc pm an cd ct), sl⟩) (c : PySem.W.codeIn K cd q = true) (k : PySem.W.keepIn K (.ref f) = true)
    (hb : ∀ (kV doc pm : Value) (an : Option Addr) (cdv ct : Value) (us : List Value), us.length = ps.length → bindArgs (PySem.W.fnOf x q (defArgs (meS j)) (defBody (meS j)) (defScope (meS j)) .none kV doc pm an cdv ct) ⟨us, []⟩ = pure (ps.zip us)) : MTx K C j x q ps :=
  ⟨f, _, ⟨a, i, k⟩, (fun_mk l c k).binds hb, fun_mk l c k⟩
theorem kit_same {t : Value} : PySem.W.kitOne K t t = some true := if_pos (beq_self_eq_true t)
theorem kit_ref {D C : Addr} {b : Bool} (ne : (Value.ref D == Value.ref C) = false) (h2 : PySem.W.isClsIn K C = true) (h3 : PySem.W.typeIn K (.ref C) = some (.type "type")) (h4 : PySem.W.subIn K (.ref D) (.ref C) = some b) : PySem.W.kitOne K (.ref D) (.ref C) = some b := by
  have e2 : ((PySem.W.clsIn K C).isSome && PySem.W.typeIn K (.ref C) == some (.type "type")) = true := by
    have h2' : (PySem.W.clsIn K C).isSome = true := h2
    rw [h2', h3] <;> rfl
  unfold PySem.W.kitOne
  rw [if_neg (by rw [ne]; decide)]
  show (if ((PySem.W.clsIn K C).isSome && PySem.W.typeIn K (.ref C) == some (.type "type")) = true then PySem.W.subIn K (.ref D) (.ref C) else none) = some b
  rw [if_pos e2]
  exact h4
theorem kit_ve {D : Addr} (h4 : PySem.W.subIn K (.ref D) (.type "ValueError") = some true) : PySem.W.kitOne K (.ref D) (.type "ValueError") = some true := by
  have ne : (Value.ref D == Value.type "ValueError") = false := rfl
  unfold PySem.W.kitOne
  rw [if_neg (by rw [ne]; decide)]
  show (if PySem.W.kitMeta "ValueError" = true then PySem.W.subIn K (.ref D) (.type "ValueError") else none) = some true
  rw [if_pos (by decide +kernel)]
  exact h4
theorem super_of {nm q : Str} {C N R : Addr} {bs bm bt : List Value} {sn : List Str} {sub : List Value} {ab : Bool} {col : Option Bool} {dd : Option Addr} {m0 m1 m2 m3 m5 : Option Value} {xc : Value} {xd : Option Addr} {cl : ClassData} {xs : Array (Option Value)}
    (xL : K.lookup C = some (PySem.excClassObj nm q C N bs bm true sn sub ab col dd m0 m1 m2 m3 m5 "ValueError.__new__")) (e : bm = .ref R :: .type "ValueError" :: bt) (lR : K.lookup R = some ⟨xc, xd, .cls cl, xs⟩) (nR : PySem.W.nsIn K cl.ns "__init__" = some none) :
    PySem.W.ks_superIn K C C "__init__" = some (some (.builtin "ValueError.__init__")) := by
  subst e
  have hcl : PySem.W.clsIn K C = some { name := nm, bases := bs, mro := .ref C :: .ref R :: .type "ValueError" :: bt, ns := N, qualname := q, hasDict := true, slotNames := sn, subclasses := sub, abstract := ab, collection := col, hasDel := false } := by unfold PySem.W.clsIn; rw [xL] <;> rfl
  unfold PySem.W.ks_superIn
  rw [hcl]
  have e0 : (Value.ref C != Value.ref C) = false := by simp
  show PySem.W.alongIn K "__init__" (((Value.ref C :: .ref R :: .type "ValueError" :: bt).dropWhile (· != .ref C)).drop 1) = _
  rw [List.dropWhile_cons, if_neg (by rw [e0]; decide)]
  show PySem.W.alongIn K "__init__" (.ref R :: .type "ValueError" :: bt) = _
  have o1 : PySem.W.ownIn K "__init__" (.ref R) = some none := by
    show (match K.lookup R with
      | some ⟨_, _, .cls cd, _⟩ => PySem.W.nsIn K cd.ns "__init__"
      | _ => none) = _
    rw [lR]
    exact nR
  have o2 : PySem.W.ownIn K "__init__" (.type "ValueError") = some (some (.builtin "ValueError.__init__")) := by
    show some (PySem.fastBuiltinOwn "ValueError" "__init__") = _
    decide +kernel
  unfold PySem.W.alongIn
  rw [o1]
  show PySem.W.alongIn K "__init__" (.type "ValueError" :: bt) = _
  unfold PySem.W.alongIn
  rw [o2]
def strsB : List Cs → List Value → Bool
  | [], [] => true
  | a :: r, .str x _ :: us => decide (x = S a) && strsB r us
  | _, _ => false
theorem strsB_ok : ∀ {ws : List Cs} {us : List Value}, strsB ws us = true → Vals (ws.map fun w => V.str (S w)) us
  | [], [], _ => .nil
  | a :: r, .str x t :: us, h => by
    obtain ⟨h1, h2⟩ := Bool.and_eq_true_iff.mp (show (decide (x = S a) && strsB r us) = true from h)
    have e := of_decide_eq_true h1
    subst e
    exact .cons ⟨t, rfl⟩ (strsB_ok h2)
  | [], _ :: _, h => by cases h
  | _ :: _, [], h => by cases h
  | _ :: _, .none :: _, h => by cases h
  | _ :: _, .bool _ :: _, h => by cases h
  | _ :: _, .int _ _ :: _, h => by cases h
  | _ :: _, .float _ _ :: _, h => by cases h
  | _ :: _, .bytes _ _ :: _, h => by cases h
  | _ :: _, .ref _ :: _, h => by cases h
  | _ :: _, .type _ :: _, h => by cases h
  | _ :: _, .builtin _ :: _, h => by cases h
/-- a written tuple of texts -/
theorem tup_strs {a : Addr} {o : Obj} {its : Array Value} {n : Nat} {ws : List Cs} (h1 : K.lookup a = some o) (h2 : o.cls = .type "tuple") (h3 : o.data = .seq its n) (h4 : strsB ws its.toList = true) (h5 : ws.length ≤ 100) : TupK K a (ws.map fun w => .str (S w)) := by
  have v := strsB_ok h4
  refine ⟨o, its, n, h1, h2, h3, ?_, v⟩
  have z := v.length
  rw [List.length_map] at z
  have z2 : its.toList.length = its.size := Array.length_toList
  rw [sizeLine_eq]
  omega
theorem dict3 {aD t1 t2 t3 : Addr} {es : Array DictEntry} {n : Nat} {h1 h2 h3 : Int} {r1 r2 r3 : Tok} {s1 s2 s3 : Str} (u : K.lookup aD = some ⟨.type "dict", none, .dict es n, #[]⟩) (e : es.toList = [⟨h1, .str s1 r1, .ref t1⟩, ⟨h2, .str s2 r2, .ref t2⟩, ⟨h3, .str s3 r3, .ref t3⟩]) (z : Str) :
    PySem.W.nsIn K aD z = some (if z = s1 then some (.ref t1) else if z = s2 then some (.ref t2) else if z = s3 then some (.ref t3) else none) := by
  unfold PySem.W.nsIn
  rw [u]
  show (match es.toList.find? (·.key.isStr z) with
      | some e => some (some e.val)
      | none => if es.toList.any (·.refKey) then none else some none) = _
  rw [e]
  have b : ∀ (s : Str) (t : Tok), (Value.str s t).isStr z = decide (z = s) := fun s t => by
    rw [PySem.W.isStr_of]
    show (s == z) = _
    by_cases y : z = s
    · subst y; simp
    · rw [decide_eq_false y]
      exact beq_eq_false_iff_ne.mpr fun w => y w.symm
  simp only [List.find?_cons, b]
  by_cases y1 : z = s1
  · simp [y1]
  · by_cases y2 : z = s2
    · simp [y1, y2]
      subst y2
      simp [y1]
    · by_cases y3 : z = s3
      · subst y3
        simp [y1, y2]
      · simp [y1, y2, y3]
        exact ⟨rfl, rfl, rfl⟩
end
theorem all_mk {l : PySem.W.OpenLaw} {w : World} {K : PySem.W.Frag} {h : Heap} {mg : Str → Option Value} {fa : Addr} (X : K.In h) (G : h.Ns mainGlobals mg) (hfa : mg "law" = some (.ref fa))
    {f16 : Addr}
    {oc16 kV16 dc16 pm16 cd16 ct16 : Value}
    {od16 an16 : Option Addr}
    {sl16 : Array (Option Value)}
    {f17 : Addr}
    {oc17 kV17 dc17 pm17 cd17 ct17 : Value}
    {od17 an17 : Option Addr}
    {sl17 : Array (Option Value)}
    {f18 : Addr}
    {oc18 kV18 dc18 pm18 cd18 ct18 : Value}
    {od18 an18 : Option Addr}
    {sl18 : Array (Option Value)}
    {f19 : Addr}
    {oc19 kV19 dc19 pm19 cd19 ct19 : Value}
    {od19 an19 : Option Addr}
    {sl19 : Array (Option Value)}
    {f20 : Addr}
    {oc20 kV20 dc20 pm20 cd20 ct20 : Value}
    {od20 an20 : Option Addr}
    {sl20 : Array (Option Value)}
    {f26 : Addr}
    {oc26 kV26 dc26 pm26 cd26 ct26 : Value}
    {od26 an26 : Option Addr}
    {sl26 : Array (Option Value)}
    {f28 : Addr}
    {oc28 kV28 dc28 pm28 cd28 ct28 : Value}
    {od28 an28 : Option Addr}
    {sl28 : Array (Option Value)}
    {f30 : Addr}
    {oc30 kV30 dc30 pm30 cd30 ct30 : Value}
    {od30 an30 : Option Addr}
    {sl30 : Array (Option Value)}
    {f31 : Addr}
    {oc31 kV31 dc31 pm31 cd31 ct31 : Value}
    {od31 an31 : Option Addr}
    {sl31 : Array (Option Value)}
    {f32 : Addr}
    {oc32 kV32 dc32 pm32 cd32 ct32 : Value}
    {od32 an32 : Option Addr}
    {sl32 : Array (Option Value)}
    {f33 : Addr}
    {oc33 kV33 dc33 pm33 cd33 ct33 : Value}
    {od33 an33 : Option Addr}
    {sl33 : Array (Option Value)}
    {f34 : Addr}
    {oc34 kV34 dc34 pm34 cd34 ct34 : Value}
    {od34 an34 : Option Addr}
    {sl34 : Array (Option Value)}
    {f35 : Addr}
    {oc35 kV35 dc35 pm35 cd35 ct35 : Value}
    {od35 an35 : Option Addr}
    {sl35 : Array (Option Value)}
    {f36 : Addr}
    {oc36 kV36 dc36 pm36 cd36 ct36 : Value}
    {od36 an36 : Option Addr}
    {sl36 : Array (Option Value)}
    {f37 : Addr}
    {oc37 kV37 dc37 pm37 cd37 ct37 : Value}
    {od37 an37 : Option Addr}
    {sl37 : Array (Option Value)}
    {f38 : Addr}
    {oc38 kV38 dc38 pm38 cd38 ct38 : Value}
    {od38 an38 : Option Addr}
    {sl38 : Array (Option Value)}
    {C : Addr}
    {g0 : Addr}
    {oc_0 kV_0 dc_0 pm_0 cd_0 ct_0 : Value}
    {od_0 an_0 : Option Addr}
    {sl_0 : Array (Option Value)}
    {g1 : Addr}
    {oc_1 kV_1 dc_1 pm_1 cd_1 ct_1 : Value}
    {od_1 an_1 : Option Addr}
    {sl_1 : Array (Option Value)}
    {g2 : Addr}
    {oc_2 kV_2 dc_2 pm_2 cd_2 ct_2 : Value}
    {od_2 an_2 : Option Addr}
    {sl_2 : Array (Option Value)}
    {g3 : Addr}
    {oc_3 kV_3 dc_3 pm_3 cd_3 ct_3 : Value}
    {od_3 an_3 : Option Addr}
    {sl_3 : Array (Option Value)}
    {g4 : Addr}
    {oc_4 kV_4 dc_4 pm_4 cd_4 ct_4 : Value}
    {od_4 an_4 : Option Addr}
    {sl_4 : Array (Option Value)}
    {g5 : Addr}
    {oc_5 kV_5 dc_5 pm_5 cd_5 ct_5 : Value}
    {od_5 an_5 : Option Addr}
    {sl_5 : Array (Option Value)}
    {g6 : Addr}
    {oc_6 kV_6 dc_6 pm_6 cd_6 ct_6 : Value}
    {od_6 an_6 : Option Addr}
    {sl_6 : Array (Option Value)}
    {g7 : Addr}
    {oc_7 kV_7 dc_7 pm_7 cd_7 ct_7 : Value}
    {od_7 an_7 : Option Addr}
    {sl_7 : Array (Option Value)}
    {g8 : Addr}
    {oc_8 kV_8 dc_8 pm_8 cd_8 ct_8 : Value}
    {od_8 an_8 : Option Addr}
    {sl_8 : Array (Option Value)}
    {g9 : Addr}
    {oc_9 kV_9 dc_9 pm_9 cd_9 ct_9 : Value}
    {od_9 an_9 : Option Addr}
    {sl_9 : Array (Option Value)}
    {g10 : Addr}
    {oc_10 kV_10 dc_10 pm_10 cd_10 ct_10 : Value}
    {od_10 an_10 : Option Addr}
    {sl_10 : Array (Option Value)}
    {g11 : Addr}
    {oc_11 kV_11 dc_11 pm_11 cd_11 ct_11 : Value}
    {od_11 an_11 : Option Addr}
    {sl_11 : Array (Option Value)}
    {g12 : Addr}
    {oc_12 kV_12 dc_12 pm_12 cd_12 ct_12 : Value}
    {od_12 an_12 : Option Addr}
    {sl_12 : Array (Option Value)}
    {g13 : Addr}
    {oc_13 kV_13 dc_13 pm_13 cd_13 ct_13 : Value}
    {od_13 an_13 : Option Addr}
    {sl_13 : Array (Option Value)}
    {g14 : Addr}
    {oc_14 kV_14 dc_14 pm_14 cd_14 ct_14 : Value}
    {od_14 an_14 : Option Addr}
    {sl_14 : Array (Option Value)}
    {g15 : Addr}
    {oc_15 kV_15 dc_15 pm_15 cd_15 ct_15 : Value}
    {od_15 an_15 : Option Addr}
    {sl_15 : Array (Option Value)}
    {g16 : Addr}
    {oc_16 kV_16 dc_16 pm_16 cd_16 ct_16 : Value}
    {od_16 an_16 : Option Addr}
    {sl_16 : Array (Option Value)}
    {g17 : Addr}
    {oc_17 kV_17 dc_17 pm_17 cd_17 ct_17 : Value}
    {od_17 an_17 : Option Addr}
    {sl_17 : Array (Option Value)}
    {g18 : Addr}
    {oc_18 kV_18 dc_18 pm_18 cd_18 ct_18 : Value}
    {od_18 an_18 : Option Addr}
    {sl_18 : Array (Option Value)}
    {zR : Addr}
    {zK : Addr}
    {zT : Addr}
    {zX : Addr}
    {clR : ClassData}
    {xc1 : Value}
    {xd1 : Option Addr}
    {xs1 : Array (Option Value)}
    {nmM quM : Str}
    {NM CM fIM cdaM ccM : Addr}
    {bsM subM bmM : List Value}
    {snM : List Str}
    {abM : Bool}
    {colM : Option Bool}
    {ddM xodM xanM ldM xldM : Option Addr}
    {w0M w1M w2M w3M w5M : Option Value}
    {xocM xdcM xpmM xctM lclM xlcM : Value}
    {xoslM lslM xlsM : Array (Option Value)}
    {p1M p2M q1M q2M q3M q4M q5M q6M q7M q8M q9M q10M : Pos}
    {vsM : Array Value}
    {filM : Str}
    {tfM : Tok}
    {btM : List Value}
    {nmU quU : Str}
    {NU CU fIU cdaU ccU : Addr}
    {bsU subU bmU : List Value}
    {snU : List Str}
    {abU : Bool}
    {colU : Option Bool}
    {ddU xodU xanU ldU xldU : Option Addr}
    {w0U w1U w2U w3U w5U : Option Value}
    {xocU xdcU xpmU xctU lclU xlcU : Value}
    {xoslU lslU xlsU : Array (Option Value)}
    {p1U p2U q1U q2U q3U q4U q5U q6U q7U q8U q9U q10U : Pos}
    {vsU : Array Value}
    {filU : Str}
    {tfU : Tok}
    {btU : List Value}
    {tT : Tok}
    {tN : Tok}
    {tE : Tok}
    {tO : Tok}
    {tD : Tok}
    {sL : Str}
    {ksL : Tok}
    {sD : Str}
    {ksD : Tok}
    {sS : Str}
    {ksS : Tok}
    {aW : Addr}
    {oaW : Obj}
    {iaW : Array Value}
    {maW : Nat}
    {aL : Addr}
    {oaL : Obj}
    {iaL : Array Value}
    {maL : Nat}
    {aD t1 t2 t3 : Addr}
    {es : Array DictEntry}
    {nD : Nat}
    {h1 h2 h3 : Int}
    {r1 r2 r3 : Tok}
    {s1 s2 s3 : Str}
    {fB TB aE : Addr}
    {ocB kVB dcB pmB cdB ctB : Value}
    {odB anB : Option Addr}
    {slB : Array (Option Value)}
    {oTB oE : Obj}
    {nTB nE : Nat}
    {iE iTB : Array Value}
    (a16 : PySem.W.nsIn K mainGlobals "run_end" = some (some (.ref f16)))
    (l16 : K.lookup f16 = some ⟨oc16, od16, .func (PySem.W.fnOf "run_end" "run_end" (defArgs (topS 16)) (defBody (topS 16)) (defScope (topS 16)) .none kV16 dc16 pm16 an16 cd16 ct16), sl16⟩)
    (c16 : PySem.W.codeIn K cd16 "run_end" = true)
    (k16 : PySem.W.keepIn K (.ref f16) = true)
    (a17 : PySem.W.nsIn K mainGlobals "word_token" = some (some (.ref f17)))
    (l17 : K.lookup f17 = some ⟨oc17, od17, .func (PySem.W.fnOf "word_token" "word_token" (defArgs (topS 17)) (defBody (topS 17)) (defScope (topS 17)) .none kV17 dc17 pm17 an17 cd17 ct17), sl17⟩)
    (c17 : PySem.W.codeIn K cd17 "word_token" = true)
    (k17 : PySem.W.keepIn K (.ref f17) = true)
    (a18 : PySem.W.nsIn K mainGlobals "number_token" = some (some (.ref f18)))
    (l18 : K.lookup f18 = some ⟨oc18, od18, .func (PySem.W.fnOf "number_token" "number_token" (defArgs (topS 18)) (defBody (topS 18)) (defScope (topS 18)) .none kV18 dc18 pm18 an18 cd18 ct18), sl18⟩)
    (c18 : PySem.W.codeIn K cd18 "number_token" = true)
    (k18 : PySem.W.keepIn K (.ref f18) = true)
    (a19 : PySem.W.nsIn K mainGlobals "token_at" = some (some (.ref f19)))
    (l19 : K.lookup f19 = some ⟨oc19, od19, .func (PySem.W.fnOf "token_at" "token_at" (defArgs (topS 19)) (defBody (topS 19)) (defScope (topS 19)) .none kV19 dc19 pm19 an19 cd19 ct19), sl19⟩)
    (c19 : PySem.W.codeIn K cd19 "token_at" = true)
    (k19 : PySem.W.keepIn K (.ref f19) = true)
    (a20 : PySem.W.nsIn K mainGlobals "tokenize" = some (some (.ref f20)))
    (l20 : K.lookup f20 = some ⟨oc20, od20, .func (PySem.W.fnOf "tokenize" "tokenize" (defArgs (topS 20)) (defBody (topS 20)) (defScope (topS 20)) .none kV20 dc20 pm20 an20 cd20 ct20), sl20⟩)
    (c20 : PySem.W.codeIn K cd20 "tokenize" = true)
    (k20 : PySem.W.keepIn K (.ref f20) = true)
    (a26 : PySem.W.nsIn K mainGlobals "limited" = some (some (.ref f26)))
    (l26 : K.lookup f26 = some ⟨oc26, od26, .func (PySem.W.fnOf "limited" "limited" (defArgs (topS 26)) (defBody (topS 26)) (defScope (topS 26)) .none kV26 dc26 pm26 an26 cd26 ct26), sl26⟩)
    (c26 : PySem.W.codeIn K cd26 "limited" = true)
    (k26 : PySem.W.keepIn K (.ref f26) = true)
    (a28 : PySem.W.nsIn K mainGlobals "read" = some (some (.ref f28)))
    (l28 : K.lookup f28 = some ⟨oc28, od28, .func (PySem.W.fnOf "read" "read" (defArgs (topS 28)) (defBody (topS 28)) (defScope (topS 28)) .none kV28 dc28 pm28 an28 cd28 ct28), sl28⟩)
    (c28 : PySem.W.codeIn K cd28 "read" = true)
    (k28 : PySem.W.keepIn K (.ref f28) = true)
    (a30 : PySem.W.nsIn K mainGlobals "_law_state" = some (some (.ref f30)))
    (l30 : K.lookup f30 = some ⟨oc30, od30, .func (PySem.W.fnOf "_law_state" "_law_state" (defArgs (topS 30)) (defBody (topS 30)) (defScope (topS 30)) .none kV30 dc30 pm30 an30 cd30 ct30), sl30⟩)
    (c30 : PySem.W.codeIn K cd30 "_law_state" = true)
    (k30 : PySem.W.keepIn K (.ref f30) = true)
    (a31 : PySem.W.nsIn K mainGlobals "_law_take" = some (some (.ref f31)))
    (l31 : K.lookup f31 = some ⟨oc31, od31, .func (PySem.W.fnOf "_law_take" "_law_take" (defArgs (topS 31)) (defBody (topS 31)) (defScope (topS 31)) .none kV31 dc31 pm31 an31 cd31 ct31), sl31⟩)
    (c31 : PySem.W.codeIn K cd31 "_law_take" = true)
    (k31 : PySem.W.keepIn K (.ref f31) = true)
    (a32 : PySem.W.nsIn K mainGlobals "_law_text" = some (some (.ref f32)))
    (l32 : K.lookup f32 = some ⟨oc32, od32, .func (PySem.W.fnOf "_law_text" "_law_text" (defArgs (topS 32)) (defBody (topS 32)) (defScope (topS 32)) .none kV32 dc32 pm32 an32 cd32 ct32), sl32⟩)
    (c32 : PySem.W.codeIn K cd32 "_law_text" = true)
    (k32 : PySem.W.keepIn K (.ref f32) = true)
    (a33 : PySem.W.nsIn K mainGlobals "_law_raised" = some (some (.ref f33)))
    (l33 : K.lookup f33 = some ⟨oc33, od33, .func (PySem.W.fnOf "_law_raised" "_law_raised" (defArgs (topS 33)) (defBody (topS 33)) (defScope (topS 33)) .none kV33 dc33 pm33 an33 cd33 ct33), sl33⟩)
    (c33 : PySem.W.codeIn K cd33 "_law_raised" = true)
    (k33 : PySem.W.keepIn K (.ref f33) = true)
    (a34 : PySem.W.nsIn K mainGlobals "_law_limit" = some (some (.ref f34)))
    (l34 : K.lookup f34 = some ⟨oc34, od34, .func (PySem.W.fnOf "_law_limit" "_law_limit" (defArgs (topS 34)) (defBody (topS 34)) (defScope (topS 34)) .none kV34 dc34 pm34 an34 cd34 ct34), sl34⟩)
    (c34 : PySem.W.codeIn K cd34 "_law_limit" = true)
    (k34 : PySem.W.keepIn K (.ref f34) = true)
    (a35 : PySem.W.nsIn K mainGlobals "_law_nested" = some (some (.ref f35)))
    (l35 : K.lookup f35 = some ⟨oc35, od35, .func (PySem.W.fnOf "_law_nested" "_law_nested" (defArgs (topS 35)) (defBody (topS 35)) (defScope (topS 35)) .none kV35 dc35 pm35 an35 cd35 ct35), sl35⟩)
    (c35 : PySem.W.codeIn K cd35 "_law_nested" = true)
    (k35 : PySem.W.keepIn K (.ref f35) = true)
    (a36 : PySem.W.nsIn K mainGlobals "_law_chains" = some (some (.ref f36)))
    (l36 : K.lookup f36 = some ⟨oc36, od36, .func (PySem.W.fnOf "_law_chains" "_law_chains" (defArgs (topS 36)) (defBody (topS 36)) (defScope (topS 36)) .none kV36 dc36 pm36 an36 cd36 ct36), sl36⟩)
    (c36 : PySem.W.codeIn K cd36 "_law_chains" = true)
    (k36 : PySem.W.keepIn K (.ref f36) = true)
    (a37 : PySem.W.nsIn K mainGlobals "_law_declared" = some (some (.ref f37)))
    (l37 : K.lookup f37 = some ⟨oc37, od37, .func (PySem.W.fnOf "_law_declared" "_law_declared" (defArgs (topS 37)) (defBody (topS 37)) (defScope (topS 37)) .none kV37 dc37 pm37 an37 cd37 ct37), sl37⟩)
    (c37 : PySem.W.codeIn K cd37 "_law_declared" = true)
    (k37 : PySem.W.keepIn K (.ref f37) = true)
    (a38 : PySem.W.nsIn K mainGlobals "law" = some (some (.ref f38)))
    (l38 : K.lookup f38 = some ⟨oc38, od38, .func (PySem.W.fnOf "law" "law" (defArgs (topS 38)) (defBody (topS 38)) (defScope (topS 38)) .none kV38 dc38 pm38 an38 cd38 ct38), sl38⟩)
    (c38 : PySem.W.codeIn K cd38 "law" = true)
    (k38 : PySem.W.keepIn K (.ref f38) = true)
    (aC : PySem.W.nsIn K mainGlobals "Reader" = some (some (.ref C)))
    (pg : PySem.W.plainGet K C Str.empty = true)
    (hd : PySem.W.hasDictIn K C = true)
    (po : PySem.W.plainOver K C = true)
    (sa : PySem.W.findIn K (.ref C) "__setattr__" = some (some (.builtin "object.__setattr__")))
    (mk : PySem.W.makesIn K C = true)
    (kc : PySem.W.keepIn K (.ref C) = true)
    (n1 : PySem.W.findIn K (.ref C) "tokens" = some none)
    (n2 : PySem.W.findIn K (.ref C) "size" = some none)
    (n3 : PySem.W.findIn K (.ref C) "at" = some none)
    (n4 : PySem.W.findIn K (.ref C) "depth" = some none)
    (am0 : PySem.W.findIn K (.ref C) "__init__" = some (some (.ref g0)))
    (im0 : PySem.W.isFn K (.ref g0) = true)
    (lm0 : K.lookup g0 = some ⟨oc_0, od_0, .func (PySem.W.fnOf "__init__" "Reader.__init__" (defArgs (meS 0)) (defBody (meS 0)) (defScope (meS 0)) .none kV_0 dc_0 pm_0 an_0 cd_0 ct_0), sl_0⟩)
    (cm0 : PySem.W.codeIn K cd_0 "Reader.__init__" = true)
    (km0 : PySem.W.keepIn K (.ref g0) = true)
    (am1 : PySem.W.findIn K (.ref C) "sees" = some (some (.ref g1)))
    (im1 : PySem.W.isFn K (.ref g1) = true)
    (lm1 : K.lookup g1 = some ⟨oc_1, od_1, .func (PySem.W.fnOf "sees" "Reader.sees" (defArgs (meS 1)) (defBody (meS 1)) (defScope (meS 1)) .none kV_1 dc_1 pm_1 an_1 cd_1 ct_1), sl_1⟩)
    (cm1 : PySem.W.codeIn K cd_1 "Reader.sees" = true)
    (km1 : PySem.W.keepIn K (.ref g1) = true)
    (am2 : PySem.W.findIn K (.ref C) "fail" = some (some (.ref g2)))
    (im2 : PySem.W.isFn K (.ref g2) = true)
    (lm2 : K.lookup g2 = some ⟨oc_2, od_2, .func (PySem.W.fnOf "fail" "Reader.fail" (defArgs (meS 2)) (defBody (meS 2)) (defScope (meS 2)) .none kV_2 dc_2 pm_2 an_2 cd_2 ct_2), sl_2⟩)
    (cm2 : PySem.W.codeIn K cd_2 "Reader.fail" = true)
    (km2 : PySem.W.keepIn K (.ref g2) = true)
    (am3 : PySem.W.findIn K (.ref C) "skip" = some (some (.ref g3)))
    (im3 : PySem.W.isFn K (.ref g3) = true)
    (lm3 : K.lookup g3 = some ⟨oc_3, od_3, .func (PySem.W.fnOf "skip" "Reader.skip" (defArgs (meS 3)) (defBody (meS 3)) (defScope (meS 3)) .none kV_3 dc_3 pm_3 an_3 cd_3 ct_3), sl_3⟩)
    (cm3 : PySem.W.codeIn K cd_3 "Reader.skip" = true)
    (km3 : PySem.W.keepIn K (.ref g3) = true)
    (am4 : PySem.W.findIn K (.ref C) "skips" = some (some (.ref g4)))
    (im4 : PySem.W.isFn K (.ref g4) = true)
    (lm4 : K.lookup g4 = some ⟨oc_4, od_4, .func (PySem.W.fnOf "skips" "Reader.skips" (defArgs (meS 4)) (defBody (meS 4)) (defScope (meS 4)) .none kV_4 dc_4 pm_4 an_4 cd_4 ct_4), sl_4⟩)
    (cm4 : PySem.W.codeIn K cd_4 "Reader.skips" = true)
    (km4 : PySem.W.keepIn K (.ref g4) = true)
    (am5 : PySem.W.findIn K (.ref C) "take" = some (some (.ref g5)))
    (im5 : PySem.W.isFn K (.ref g5) = true)
    (lm5 : K.lookup g5 = some ⟨oc_5, od_5, .func (PySem.W.fnOf "take" "Reader.take" (defArgs (meS 5)) (defBody (meS 5)) (defScope (meS 5)) .none kV_5 dc_5 pm_5 an_5 cd_5 ct_5), sl_5⟩)
    (cm5 : PySem.W.codeIn K cd_5 "Reader.take" = true)
    (km5 : PySem.W.keepIn K (.ref g5) = true)
    (am6 : PySem.W.findIn K (.ref C) "enter" = some (some (.ref g6)))
    (im6 : PySem.W.isFn K (.ref g6) = true)
    (lm6 : K.lookup g6 = some ⟨oc_6, od_6, .func (PySem.W.fnOf "enter" "Reader.enter" (defArgs (meS 6)) (defBody (meS 6)) (defScope (meS 6)) .none kV_6 dc_6 pm_6 an_6 cd_6 ct_6), sl_6⟩)
    (cm6 : PySem.W.codeIn K cd_6 "Reader.enter" = true)
    (km6 : PySem.W.keepIn K (.ref g6) = true)
    (am7 : PySem.W.findIn K (.ref C) "leave" = some (some (.ref g7)))
    (im7 : PySem.W.isFn K (.ref g7) = true)
    (lm7 : K.lookup g7 = some ⟨oc_7, od_7, .func (PySem.W.fnOf "leave" "Reader.leave" (defArgs (meS 7)) (defBody (meS 7)) (defScope (meS 7)) .none kV_7 dc_7 pm_7 an_7 cd_7 ct_7), sl_7⟩)
    (cm7 : PySem.W.codeIn K cd_7 "Reader.leave" = true)
    (km7 : PySem.W.keepIn K (.ref g7) = true)
    (am8 : PySem.W.findIn K (.ref C) "program" = some (some (.ref g8)))
    (im8 : PySem.W.isFn K (.ref g8) = true)
    (lm8 : K.lookup g8 = some ⟨oc_8, od_8, .func (PySem.W.fnOf "program" "Reader.program" (defArgs (meS 8)) (defBody (meS 8)) (defScope (meS 8)) .none kV_8 dc_8 pm_8 an_8 cd_8 ct_8), sl_8⟩)
    (cm8 : PySem.W.codeIn K cd_8 "Reader.program" = true)
    (km8 : PySem.W.keepIn K (.ref g8) = true)
    (am9 : PySem.W.findIn K (.ref C) "plain_type" = some (some (.ref g9)))
    (im9 : PySem.W.isFn K (.ref g9) = true)
    (lm9 : K.lookup g9 = some ⟨oc_9, od_9, .func (PySem.W.fnOf "plain_type" "Reader.plain_type" (defArgs (meS 9)) (defBody (meS 9)) (defScope (meS 9)) .none kV_9 dc_9 pm_9 an_9 cd_9 ct_9), sl_9⟩)
    (cm9 : PySem.W.codeIn K cd_9 "Reader.plain_type" = true)
    (km9 : PySem.W.keepIn K (.ref g9) = true)
    (am10 : PySem.W.findIn K (.ref C) "expression" = some (some (.ref g10)))
    (im10 : PySem.W.isFn K (.ref g10) = true)
    (lm10 : K.lookup g10 = some ⟨oc_10, od_10, .func (PySem.W.fnOf "expression" "Reader.expression" (defArgs (meS 10)) (defBody (meS 10)) (defScope (meS 10)) .none kV_10 dc_10 pm_10 an_10 cd_10 ct_10), sl_10⟩)
    (cm10 : PySem.W.codeIn K cd_10 "Reader.expression" = true)
    (km10 : PySem.W.keepIn K (.ref g10) = true)
    (am11 : PySem.W.findIn K (.ref C) "choice" = some (some (.ref g11)))
    (im11 : PySem.W.isFn K (.ref g11) = true)
    (lm11 : K.lookup g11 = some ⟨oc_11, od_11, .func (PySem.W.fnOf "choice" "Reader.choice" (defArgs (meS 11)) (defBody (meS 11)) (defScope (meS 11)) .none kV_11 dc_11 pm_11 an_11 cd_11 ct_11), sl_11⟩)
    (cm11 : PySem.W.codeIn K cd_11 "Reader.choice" = true)
    (km11 : PySem.W.keepIn K (.ref g11) = true)
    (am12 : PySem.W.findIn K (.ref C) "handler" = some (some (.ref g12)))
    (im12 : PySem.W.isFn K (.ref g12) = true)
    (lm12 : K.lookup g12 = some ⟨oc_12, od_12, .func (PySem.W.fnOf "handler" "Reader.handler" (defArgs (meS 12)) (defBody (meS 12)) (defScope (meS 12)) .none kV_12 dc_12 pm_12 an_12 cd_12 ct_12), sl_12⟩)
    (cm12 : PySem.W.codeIn K cd_12 "Reader.handler" = true)
    (km12 : PySem.W.keepIn K (.ref g12) = true)
    (am13 : PySem.W.findIn K (.ref C) "comparison" = some (some (.ref g13)))
    (im13 : PySem.W.isFn K (.ref g13) = true)
    (lm13 : K.lookup g13 = some ⟨oc_13, od_13, .func (PySem.W.fnOf "comparison" "Reader.comparison" (defArgs (meS 13)) (defBody (meS 13)) (defScope (meS 13)) .none kV_13 dc_13 pm_13 an_13 cd_13 ct_13), sl_13⟩)
    (cm13 : PySem.W.codeIn K cd_13 "Reader.comparison" = true)
    (km13 : PySem.W.keepIn K (.ref g13) = true)
    (am14 : PySem.W.findIn K (.ref C) "addition" = some (some (.ref g14)))
    (im14 : PySem.W.isFn K (.ref g14) = true)
    (lm14 : K.lookup g14 = some ⟨oc_14, od_14, .func (PySem.W.fnOf "addition" "Reader.addition" (defArgs (meS 14)) (defBody (meS 14)) (defScope (meS 14)) .none kV_14 dc_14 pm_14 an_14 cd_14 ct_14), sl_14⟩)
    (cm14 : PySem.W.codeIn K cd_14 "Reader.addition" = true)
    (km14 : PySem.W.keepIn K (.ref g14) = true)
    (am15 : PySem.W.findIn K (.ref C) "multiplication" = some (some (.ref g15)))
    (im15 : PySem.W.isFn K (.ref g15) = true)
    (lm15 : K.lookup g15 = some ⟨oc_15, od_15, .func (PySem.W.fnOf "multiplication" "Reader.multiplication" (defArgs (meS 15)) (defBody (meS 15)) (defScope (meS 15)) .none kV_15 dc_15 pm_15 an_15 cd_15 ct_15), sl_15⟩)
    (cm15 : PySem.W.codeIn K cd_15 "Reader.multiplication" = true)
    (km15 : PySem.W.keepIn K (.ref g15) = true)
    (am16 : PySem.W.findIn K (.ref C) "prefix" = some (some (.ref g16)))
    (im16 : PySem.W.isFn K (.ref g16) = true)
    (lm16 : K.lookup g16 = some ⟨oc_16, od_16, .func (PySem.W.fnOf "prefix" "Reader.prefix" (defArgs (meS 16)) (defBody (meS 16)) (defScope (meS 16)) .none kV_16 dc_16 pm_16 an_16 cd_16 ct_16), sl_16⟩)
    (cm16 : PySem.W.codeIn K cd_16 "Reader.prefix" = true)
    (km16 : PySem.W.keepIn K (.ref g16) = true)
    (am17 : PySem.W.findIn K (.ref C) "begins_atom" = some (some (.ref g17)))
    (im17 : PySem.W.isFn K (.ref g17) = true)
    (lm17 : K.lookup g17 = some ⟨oc_17, od_17, .func (PySem.W.fnOf "begins_atom" "Reader.begins_atom" (defArgs (meS 17)) (defBody (meS 17)) (defScope (meS 17)) .none kV_17 dc_17 pm_17 an_17 cd_17 ct_17), sl_17⟩)
    (cm17 : PySem.W.codeIn K cd_17 "Reader.begins_atom" = true)
    (km17 : PySem.W.keepIn K (.ref g17) = true)
    (am18 : PySem.W.findIn K (.ref C) "atom" = some (some (.ref g18)))
    (im18 : PySem.W.isFn K (.ref g18) = true)
    (lm18 : K.lookup g18 = some ⟨oc_18, od_18, .func (PySem.W.fnOf "atom" "Reader.atom" (defArgs (meS 18)) (defBody (meS 18)) (defScope (meS 18)) .none kV_18 dc_18 pm_18 an_18 cd_18 ct_18), sl_18⟩)
    (cm18 : PySem.W.codeIn K cd_18 "Reader.atom" = true)
    (km18 : PySem.W.keepIn K (.ref g18) = true)
    (yR : PySem.W.nsIn K mainGlobals "Refused" = some (some (.ref zR)))
    (yiR : PySem.W.isClsIn K zR = true)
    (ytR : PySem.W.typeIn K (.ref zR) = some (.type "type"))
    (yK : PySem.W.nsIn K mainGlobals "Unknown" = some (some (.ref zK)))
    (yiK : PySem.W.isClsIn K zK = true)
    (ytK : PySem.W.typeIn K (.ref zK) = some (.type "type"))
    (yT : PySem.W.nsIn K mainGlobals "Twice" = some (some (.ref zT)))
    (yiT : PySem.W.isClsIn K zT = true)
    (ytT : PySem.W.typeIn K (.ref zT) = some (.type "type"))
    (yX : PySem.W.nsIn K mainGlobals "Mismatched" = some (some (.ref zX)))
    (yiX : PySem.W.isClsIn K zX = true)
    (ytX : PySem.W.typeIn K (.ref zX) = some (.type "type"))
    (ysR : PySem.W.subIn K (.ref zR) (.type "BaseException") = some true)
    (yhR : PySem.W.hasDictIn K zR = true)
    (lR : K.lookup zR = some ⟨xc1, xd1, .cls clR, xs1⟩)
    (nR : PySem.W.nsIn K clR.ns "__init__" = some none)
    (eM : PySem.W.nsIn K mainGlobals "Malformed" = some (some (.ref CM)))
    (xLM : K.lookup CM = some (PySem.excClassObj nmM quM CM NM bsM bmM true snM subM abM colM ddM w0M w1M w2M w3M w5M "ValueError.__new__"))
    (xbM : PySem.HandSPX.refsVE bmM = true)
    (saM : PySem.W.findIn K (.ref CM) "__setattr__" = some (some (.builtin "object.__setattr__")))
    (gaM : PySem.W.findIn K (.ref CM) "__getattribute__" = some (some (.builtin "BaseException.__getattribute__")))
    (ggM : PySem.W.findIn K (.ref CM) "__getattr__" = some none)
    (nbM : PySem.W.findIn K (.ref CM) "at" = some none)
    (fiM : PySem.W.findIn K (.ref CM) "__init__" = some (some (.ref fIM)))
    (tiM : PySem.W.typeIn K (.ref fIM) = some (.type "function"))
    (kCM : PySem.W.keepIn K (.ref CM) = true)
    (eCM : PySem.W.subIn K (.ref CM) (.type "BaseException") = some true)
    (tCM : PySem.W.typeIn K (.ref CM) = some (.type "type"))
    (hCM : PySem.W.hasDictIn K CM = true)
    (iCM : PySem.W.isClsIn K CM = true)
    (sVM : PySem.W.subIn K (.ref CM) (.type "ValueError") = some true)
    (seM : PySem.W.mroIn K CM (.ref CM) = some true)
    (clM : PySem.W.findIn K (.ref CM) "__class__" = some (some (.builtin "object.__class__")))
    (moM : PySem.W.mroIn K CM (.type "object") = some true)
    (sRM : PySem.W.subIn K (.ref CM) (.ref zR) = some true)
    (sKM : PySem.W.subIn K (.ref CM) (.ref zK) = some false)
    (sTM : PySem.W.subIn K (.ref CM) (.ref zT) = some false)
    (sXM : PySem.W.subIn K (.ref CM) (.ref zX) = some false)
    (bqM : bmM = .ref zR :: .type "ValueError" :: btM)
    (xlM : K.lookup fIM = some ⟨xocM, xodM, .func (PySem.W.ksFn "__init__" "Malformed.__init__" (PySem.AfX.iA "at" p1M p2M) (PySem.AfX.iB "malformed text" "at" q1M q2M q3M q4M q5M q6M q7M q8M q9M q10M) (PySem.AfX.iS "at") .none .none xdcM xpmM xanM (.ref cdaM) xctM ccM), xoslM⟩)
    (xcM : PySem.W.codeIn K (.ref cdaM) "Malformed.__init__" = true)
    (xqM : (q3M.endLine == q5M.line) = true)
    (xfM : K.lookup cdaM = some ⟨lclM, ldM, .fields vsM, lslM⟩)
    (xvM : vsM[2]? = some (.str filM tfM))
    (xmM : ((l.prog.main.file : Str) == filM) = true)
    (xeM : K.lookup ccM = some ⟨xlcM, xldM, .cell (some (.ref CM)), xlsM⟩)
    (eU : PySem.W.nsIn K mainGlobals "Unbounded" = some (some (.ref CU)))
    (xLU : K.lookup CU = some (PySem.excClassObj nmU quU CU NU bsU bmU true snU subU abU colU ddU w0U w1U w2U w3U w5U "ValueError.__new__"))
    (xbU : PySem.HandSPX.refsVE bmU = true)
    (saU : PySem.W.findIn K (.ref CU) "__setattr__" = some (some (.builtin "object.__setattr__")))
    (gaU : PySem.W.findIn K (.ref CU) "__getattribute__" = some (some (.builtin "BaseException.__getattribute__")))
    (ggU : PySem.W.findIn K (.ref CU) "__getattr__" = some none)
    (nbU : PySem.W.findIn K (.ref CU) "name" = some none)
    (fiU : PySem.W.findIn K (.ref CU) "__init__" = some (some (.ref fIU)))
    (tiU : PySem.W.typeIn K (.ref fIU) = some (.type "function"))
    (kCU : PySem.W.keepIn K (.ref CU) = true)
    (eCU : PySem.W.subIn K (.ref CU) (.type "BaseException") = some true)
    (tCU : PySem.W.typeIn K (.ref CU) = some (.type "type"))
    (hCU : PySem.W.hasDictIn K CU = true)
    (iCU : PySem.W.isClsIn K CU = true)
    (sVU : PySem.W.subIn K (.ref CU) (.type "ValueError") = some true)
    (seU : PySem.W.mroIn K CU (.ref CU) = some true)
    (clU : PySem.W.findIn K (.ref CU) "__class__" = some (some (.builtin "object.__class__")))
    (moU : PySem.W.mroIn K CU (.type "object") = some true)
    (sRU : PySem.W.subIn K (.ref CU) (.ref zR) = some true)
    (sKU : PySem.W.subIn K (.ref CU) (.ref zK) = some false)
    (sTU : PySem.W.subIn K (.ref CU) (.ref zT) = some false)
    (sXU : PySem.W.subIn K (.ref CU) (.ref zX) = some false)
    (bqU : bmU = .ref zR :: .type "ValueError" :: btU)
    (xlU : K.lookup fIU = some ⟨xocU, xodU, .func (PySem.W.ksFn "__init__" "Unbounded.__init__" (PySem.AfX.iA "name" p1U p2U) (PySem.AfX.iB "limit exceeded" "name" q1U q2U q3U q4U q5U q6U q7U q8U q9U q10U) (PySem.AfX.iS "name") .none .none xdcU xpmU xanU (.ref cdaU) xctU ccU), xoslU⟩)
    (xcU : PySem.W.codeIn K (.ref cdaU) "Unbounded.__init__" = true)
    (xqU : (q3U.endLine == q5U.line) = true)
    (xfU : K.lookup cdaU = some ⟨lclU, ldU, .fields vsU, lslU⟩)
    (xvU : vsU[2]? = some (.str filU tfU))
    (xmU : ((l.prog.main.file : Str) == filU) = true)
    (xeU : K.lookup ccU = some ⟨xlcU, xldU, .cell (some (.ref CU)), xlsU⟩)
    (mu : PySem.W.subIn K (.ref CM) (.ref CU) = some false)
    (um : PySem.W.subIn K (.ref CU) (.ref CM) = some false)
    (dCMCU : (Value.ref CM == Value.ref CU) = false)
    (dCUCM : (Value.ref CU == Value.ref CM) = false)
    (dCMzK : (Value.ref CM == Value.ref zK) = false)
    (dCMzT : (Value.ref CM == Value.ref zT) = false)
    (dCMzX : (Value.ref CM == Value.ref zX) = false)
    (dCUzK : (Value.ref CU == Value.ref zK) = false)
    (dCUzT : (Value.ref CU == Value.ref zT) = false)
    (dCUzX : (Value.ref CU == Value.ref zX) = false)
    (op : PySem.W.nsIn K cStatics "thirdparty.any" = some none)
    (hn : PySem.W.specialIn K (.builtin "object.__class__") "__get__" = some (some (.builtin "getset_descriptor.__get__")))
    (ht : PySem.W.takesIn K (.builtin "object.__class__") = some true)
    (tp : (l.prog.main.scope.names.lookup ("super" : Str)).isSome = false)
    (no_len : PySem.W.nsIn K mainGlobals "len" = some none)
    (no_max : PySem.W.nsIn K mainGlobals "max" = some none)
    (no_tuple : PySem.W.nsIn K mainGlobals "tuple" = some none)
    (no_int : PySem.W.nsIn K mainGlobals "int" = some none)
    (no_abs : PySem.W.nsIn K mainGlobals "abs" = some none)
    (no_isinstance : PySem.W.nsIn K mainGlobals "isinstance" = some none)
    (no_super : PySem.W.nsIn K mainGlobals "super" = some none)
    (no_ValueError : PySem.W.nsIn K mainGlobals "ValueError" = some none)
    (vMOST_TEXT : PySem.W.nsIn K mainGlobals "MOST_TEXT" = some (some (.int 10000 tT)))
    (vMOST_NAME : PySem.W.nsIn K mainGlobals "MOST_NAME" = some (some (.int 20 tN)))
    (vNUMBERS_END : PySem.W.nsIn K mainGlobals "NUMBERS_END" = some (some (.int 2147483648 tE)))
    (vMOST_OPEN : PySem.W.nsIn K mainGlobals "MOST_OPEN" = some (some (.int 60 tO)))
    (vMOST_DEPTH : PySem.W.nsIn K mainGlobals "MOST_DEPTH" = some (some (.int 60 tD)))
    (vLETTERS : PySem.W.nsIn K mainGlobals "LETTERS" = some (some (.str sL ksL)))
    (wLETTERS : decide (sL = S letL) = true)
    (vDIGITS : PySem.W.nsIn K mainGlobals "DIGITS" = some (some (.str sD ksD)))
    (wDIGITS : decide (sD = S digL) = true)
    (vSIGNS : PySem.W.nsIn K mainGlobals "SIGNS" = some (some (.str sS ksS)))
    (wSIGNS : decide (sS = S Afd.signs) = true)
    (vWORDS : PySem.W.nsIn K mainGlobals "WORDS" = some (some (.ref aW)))
    (uWORDS : K.lookup aW = some oaW)
    (bWORDS : oaW.cls = .type "tuple")
    (tWORDS : oaW.data = .seq iaW maW)
    (wWORDS : strsB words iaW.toList = true)
    (vLONG_SIGNS : PySem.W.nsIn K mainGlobals "LONG_SIGNS" = some (some (.ref aL)))
    (uLONG_SIGNS : K.lookup aL = some oaL)
    (bLONG_SIGNS : oaL.cls = .type "tuple")
    (tLONG_SIGNS : oaL.data = .seq iaL maL)
    (wLONG_SIGNS : strsB longs iaL.toList = true)
    (vC : PySem.W.nsIn K mainGlobals "CONSTANTS" = some (some (.ref aD)))
    (uC : K.lookup aD = some ⟨.type "dict", none, .dict es nD, #[]⟩)
    (eC3 : es.toList = [⟨h1, .str s1 r1, .ref t1⟩, ⟨h2, .str s2 r2, .ref t2⟩, ⟨h3, .str s3 r3, .ref t3⟩])
    (h1e : h1 = PyData.keyHash w.params s1)
    (h2e : h2 = PyData.keyHash w.params s2)
    (h3e : h3 = PyData.keyHash w.params s3)
    (s1e : decide (s1 = S wTrue) = true)
    (s2e : decide (s2 = S wFalse) = true)
    (s3e : decide (s3 = S wUnit) = true)
    (lowD : (aD == sysModules) = false)
    (aB : PySem.W.nsIn K mainGlobals "built" = some (some (.ref fB)))
    (lB : K.lookup fB = some ⟨ocB, odB, .func (PySem.W.fnOf "built" "built" (defArgs (topS 27)) (defBody (topS 27)) (defScope (topS 27)) (.ref TB) kVB dcB pmB anB cdB ctB), slB⟩)
    (cB : PySem.W.codeIn K cdB "built" = true)
    (kB : PySem.W.keepIn K (.ref fB) = true)
    (tB : K.lookup TB = some oTB)
    (tBd : oTB.data = .seq iTB nTB)
    (tBi : iTB.toList = [.ref aE])
    (nE1 : K.lookup aE = some oE)
    (nE2 : oE.cls = .type "tuple")
    (nE3 : oE.data = .seq iE nE)
    (nE4 : iE.toList = []) :
    ∃ fd : FuncData, (∀ (s : Shared) (v : Value), BindsTo s fd ⟨[v], []⟩ [("_law_script", v)]) ∧ ∀ base : Heap, K.In base → base.Ns mainGlobals mg → FnOk l.prog w K mg base CX0 (GF + 12) fa fd ["_law_script"] (spLaw K) := by
  have e := hfa.symm.trans (PySem.W.mg_of X G a38)
  cases e
  have g_len := PySem.W.mg_none_of X G no_len
  have g_max := PySem.W.mg_none_of X G no_max
  have g_tuple := PySem.W.mg_none_of X G no_tuple
  have g_int := PySem.W.mg_none_of X G no_int
  have g_abs := PySem.W.mg_none_of X G no_abs
  have g_isinstance := PySem.W.mg_none_of X G no_isinstance
  have g_super := PySem.W.mg_none_of X G no_super
  have g_ValueError := PySem.W.mg_none_of X G no_ValueError
  have errM : PySem.AfX.ErrTxt l.prog K mg "Malformed" "Malformed.__init__" "malformed text" "at" CM fIM ccM cdaM :=
    { gC := PySem.W.mg_of X G eM, cls := ⟨_, _, _, _, _, _, _, _, _, _, _, _, _, _, _, xLM, xbM⟩, sa := saM, ga := gaM, gg := ggM, noN := nbM, iC := fiM, tC := tiM, kC := kCM, exC := eCM, tyC := tCM, hdC := hCM, sup := super_of xLM bqM lR nR, subV := sVM, self := seM, opq := op, nosup := g_super,
      file := ⟨_, _, _, _, _, _, xfM, xvM, xmM⟩, top := tp, cell := ⟨_, _, _, xeM⟩, fn := ⟨_, _, _, _, _, _, _, _, _, _, _, _, _, _, _, _, _, _, _, xlM, xcM, xqM⟩ }
  have errU : PySem.AfX.ErrTxt l.prog K mg "Unbounded" "Unbounded.__init__" "limit exceeded" "name" CU fIU ccU cdaU :=
    { gC := PySem.W.mg_of X G eU, cls := ⟨_, _, _, _, _, _, _, _, _, _, _, _, _, _, _, xLU, xbU⟩, sa := saU, ga := gaU, gg := ggU, noN := nbU, iC := fiU, tC := tiU, kC := kCU, exC := eCU, tyC := tCU, hdC := hCU, sup := super_of xLU bqU lR nR, subV := sVU, self := seU, opq := op, nosup := g_super,
      file := ⟨_, _, _, _, _, _, xfU, xvU, xmU⟩, top := tp, cell := ⟨_, _, _, xeU⟩, fn := ⟨_, _, _, _, _, _, _, _, _, _, _, _, _, _, _, _, _, _, _, xlU, xcU, xqU⟩ }
  let TE : ETx l.prog K mg := ⟨CM, CU, fIM, ccM, cdaM, fIU, ccU, cdaU, errM, errU⟩
  have oneM : XOne K CM zR zK zT zX := ⟨⟨gaM, ggM, eCM, hCM, clM, hn, ht, moM⟩, PySem.W.exm_ref ysR yhR ytR sRM, kit_ve sVM, kit_ref dCMzK yiK ytK sKM, kit_ref dCMzT yiT ytT sTM, kit_ref dCMzX yiX ytX sXM⟩
  have oneU : XOne K CU zR zK zT zX := ⟨⟨gaU, ggU, eCU, hCU, clU, hn, ht, moU⟩, PySem.W.exm_ref ysR yhR ytR sRU, kit_ve sVU, kit_ref dCUzK yiK ytK sKU, kit_ref dCUzT yiT ytT sTU, kit_ref dCUzX yiX ytX sXU⟩
  let XT : XTx l.prog K mg TE := { aR := zR, aK := zK, aT := zT, aM := zX, gR := PySem.W.mg_of X G yR, gK := PySem.W.mg_of X G yK, gT := PySem.W.mg_of X G yT, gM := PySem.W.mg_of X G yX, gI := g_isinstance, gV := g_ValueError, int := g_int, oM := oneM, oU := oneU, mm := kit_same, mu := kit_ref dCMCU iCU tCU mu, um := kit_ref dCUCM iCM tCM um, uu := kit_same }
  have q1 := of_decide_eq_true wLETTERS
  have q2 := of_decide_eq_true wDIGITS
  have q3 := of_decide_eq_true wSIGNS
  subst q1; subst q2; subst q3
  let KT : KTx K mg := { aW := aW, aL := aL, t1 := ksL, t2 := ksD, t3 := ksS, t4 := tT, t5 := tN, t6 := tE, gW := PySem.W.mg_of X G vWORDS, kW := tup_strs uWORDS bWORDS tWORDS wWORDS (by decide), gL := PySem.W.mg_of X G vLONG_SIGNS, kL := tup_strs uLONG_SIGNS bLONG_SIGNS tLONG_SIGNS wLONG_SIGNS (by decide), gLet := PySem.W.mg_of X G vLETTERS, gDig := PySem.W.mg_of X G vDIGITS, gSig := PySem.W.mg_of X G vSIGNS, gT := PySem.W.mg_of X G vMOST_TEXT, gN := PySem.W.mg_of X G vMOST_NAME, gE := PySem.W.mg_of X G vNUMBERS_END, len := g_len, int := g_int }
  have y1 := of_decide_eq_true s1e
  have y2 := of_decide_eq_true s2e
  have y3 := of_decide_eq_true s3e
  subst y1; subst y2; subst y3
  let CT : CTx K w mg := { aC := aD, es := es, n := nD, t1 := t1, t2 := t2, t3 := t3, D := ⟨uC, by rw [eC3]; exact ⟨⟨_, _, rfl, h1e⟩, ⟨_, _, rfl, h2e⟩, ⟨_, _, rfl, h3e⟩, trivial⟩, lowD⟩, g := PySem.W.mg_of X G vC, look := dict3 uC eC3 }
  have T : RTx K mg C := ⟨⟨pg, hd, po, sa⟩, n1, n2, n3, n4, g_len⟩
  have vE : Vals [V.ref aE] iTB.toList := by rw [tBi]; exact .cons rfl .nil
  have BT : BTx K mg := ⟨fB, _, aE, PySem.W.mg_of X G aB, ⟨oE, iE, nE, nE1, nE2, nE3, nE4⟩, ⟨⟨_, _, _, _, _, _, _, _, _, _, rfl, lB, cB, .inr ⟨by simp, TB, oTB, iTB.toList, nTB, rfl, tB, by rw [tBd], vE⟩, .inl rfl⟩, kB⟩⟩
  have F16 : GTx K mg 16 "run_end" ["text", "at", "allowed"] := gtx X G a16 l16 c16 k16 (fun _ _ _ _ _ _ us hl => match us, hl with | [_, _, _], _ => rfl)
  have F17 : GTx K mg 17 "word_token" ["text", "at"] := gtx X G a17 l17 c17 k17 (fun _ _ _ _ _ _ us hl => match us, hl with | [_, _], _ => rfl)
  have F18 : GTx K mg 18 "number_token" ["text", "at"] := gtx X G a18 l18 c18 k18 (fun _ _ _ _ _ _ us hl => match us, hl with | [_, _], _ => rfl)
  have F19 : GTx K mg 19 "token_at" ["text", "at"] := gtx X G a19 l19 c19 k19 (fun _ _ _ _ _ _ us hl => match us, hl with | [_, _], _ => rfl)
  have F20 : GTx K mg 20 "tokenize" ["text"] := gtx X G a20 l20 c20 k20 (fun _ _ _ _ _ _ us hl => match us, hl with | [_], _ => rfl)
  have F26 : GTx K mg 26 "limited" ["node", "depth"] := gtx X G a26 l26 c26 k26 (fun _ _ _ _ _ _ us hl => match us, hl with | [_, _], _ => rfl)
  have F28 : GTx K mg 28 "read" ["text"] := gtx X G a28 l28 c28 k28 (fun _ _ _ _ _ _ us hl => match us, hl with | [_], _ => rfl)
  have F30 : GTx K mg 30 "_law_state" ["_law_script"] := gtx X G a30 l30 c30 k30 (fun _ _ _ _ _ _ us hl => match us, hl with | [_], _ => rfl)
  have F31 : GTx K mg 31 "_law_take" ["_law_state_here", "_law_most"] := gtx X G a31 l31 c31 k31 (fun _ _ _ _ _ _ us hl => match us, hl with | [_, _], _ => rfl)
  have F32 : GTx K mg 32 "_law_text" ["_law_state_here", "_law_depth"] := gtx X G a32 l32 c32 k32 (fun _ _ _ _ _ _ us hl => match us, hl with | [_, _], _ => rfl)
  have F33 : GTx K mg 33 "_law_raised" ["_law_text_here"] := gtx X G a33 l33 c33 k33 (fun _ _ _ _ _ _ us hl => match us, hl with | [_], _ => rfl)
  have F34 : GTx K mg 34 "_law_limit" ["_law_text_here", "_law_is_good"] := gtx X G a34 l34 c34 k34 (fun _ _ _ _ _ _ us hl => match us, hl with | [_, _], _ => rfl)
  have F35 : GTx K mg 35 "_law_nested" ["_law_many"] := gtx X G a35 l35 c35 k35 (fun _ _ _ _ _ _ us hl => match us, hl with | [_], _ => rfl)
  have F36 : GTx K mg 36 "_law_chains" ["_law_state_here"] := gtx X G a36 l36 c36 k36 (fun _ _ _ _ _ _ us hl => match us, hl with | [_], _ => rfl)
  have F37 : GTx K mg 37 "_law_declared" ["_law_text_here"] := gtx X G a37 l37 c37 k37 (fun _ _ _ _ _ _ us hl => match us, hl with | [_], _ => rfl)
  have M0 : MTx K C 0 "__init__" "Reader.__init__" ["self", "text"] := mtx am0 im0 lm0 cm0 km0 (fun _ _ _ _ _ _ us hl => match us, hl with | [_, _], _ => rfl)
  have M1 : MTx K C 1 "sees" "Reader.sees" ["self", "value"] := mtx am1 im1 lm1 cm1 km1 (fun _ _ _ _ _ _ us hl => match us, hl with | [_, _], _ => rfl)
  have M2 : MTx K C 2 "fail" "Reader.fail" ["self"] := mtx am2 im2 lm2 cm2 km2 (fun _ _ _ _ _ _ us hl => match us, hl with | [_], _ => rfl)
  have M3 : MTx K C 3 "skip" "Reader.skip" ["self", "value"] := mtx am3 im3 lm3 cm3 km3 (fun _ _ _ _ _ _ us hl => match us, hl with | [_, _], _ => rfl)
  have M4 : MTx K C 4 "skips" "Reader.skips" ["self", "value"] := mtx am4 im4 lm4 cm4 km4 (fun _ _ _ _ _ _ us hl => match us, hl with | [_, _], _ => rfl)
  have M5 : MTx K C 5 "take" "Reader.take" ["self", "kind"] := mtx am5 im5 lm5 cm5 km5 (fun _ _ _ _ _ _ us hl => match us, hl with | [_, _], _ => rfl)
  have M6 : MTx K C 6 "enter" "Reader.enter" ["self"] := mtx am6 im6 lm6 cm6 km6 (fun _ _ _ _ _ _ us hl => match us, hl with | [_], _ => rfl)
  have M7 : MTx K C 7 "leave" "Reader.leave" ["self", "node"] := mtx am7 im7 lm7 cm7 km7 (fun _ _ _ _ _ _ us hl => match us, hl with | [_, _], _ => rfl)
  have M8 : MTx K C 8 "program" "Reader.program" ["self"] := mtx am8 im8 lm8 cm8 km8 (fun _ _ _ _ _ _ us hl => match us, hl with | [_], _ => rfl)
  have M9 : MTx K C 9 "plain_type" "Reader.plain_type" ["self"] := mtx am9 im9 lm9 cm9 km9 (fun _ _ _ _ _ _ us hl => match us, hl with | [_], _ => rfl)
  have M10 : MTx K C 10 "expression" "Reader.expression" ["self"] := mtx am10 im10 lm10 cm10 km10 (fun _ _ _ _ _ _ us hl => match us, hl with | [_], _ => rfl)
  have M11 : MTx K C 11 "choice" "Reader.choice" ["self"] := mtx am11 im11 lm11 cm11 km11 (fun _ _ _ _ _ _ us hl => match us, hl with | [_], _ => rfl)
  have M12 : MTx K C 12 "handler" "Reader.handler" ["self"] := mtx am12 im12 lm12 cm12 km12 (fun _ _ _ _ _ _ us hl => match us, hl with | [_], _ => rfl)
  have M13 : MTx K C 13 "comparison" "Reader.comparison" ["self"] := mtx am13 im13 lm13 cm13 km13 (fun _ _ _ _ _ _ us hl => match us, hl with | [_], _ => rfl)
  have M14 : MTx K C 14 "addition" "Reader.addition" ["self"] := mtx am14 im14 lm14 cm14 km14 (fun _ _ _ _ _ _ us hl => match us, hl with | [_], _ => rfl)
  have M15 : MTx K C 15 "multiplication" "Reader.multiplication" ["self"] := mtx am15 im15 lm15 cm15 km15 (fun _ _ _ _ _ _ us hl => match us, hl with | [_], _ => rfl)
  have M16 : MTx K C 16 "prefix" "Reader.prefix" ["self"] := mtx am16 im16 lm16 cm16 km16 (fun _ _ _ _ _ _ us hl => match us, hl with | [_], _ => rfl)
  have M17 : MTx K C 17 "begins_atom" "Reader.begins_atom" ["self"] := mtx am17 im17 lm17 cm17 km17 (fun _ _ _ _ _ _ us hl => match us, hl with | [_], _ => rfl)
  have M18 : MTx K C 18 "atom" "Reader.atom" ["self"] := mtx am18 im18 lm18 cm18 km18 (fun _ _ _ _ _ _ us hl => match us, hl with | [_], _ => rfl)
  refine ⟨PySem.W.fnOf "law" "law" (defArgs (topS 38)) (defBody (topS 38)) (defScope (topS 38)) .none kV38 dc38 pm38 an38 cd38 ct38, fun s v => .of_eq rfl, fun base _ _ => ?_⟩
  have S1 := ok_sees (P := l.prog) (w := w) (base := base) T M1
  have S2 := ok_fail (P := l.prog) (w := w) (base := base) T TE M2
  have Sm : Small l.prog w K mg base C TE := { T := T, sees := S1, fail := S2, skip := ok_skip T TE S1 S2 M3, skips := ok_skips T S1 M4, take := ok_take T TE S2 M5, enter := ok_enter T TE (PySem.W.mg_of X G vMOST_OPEN) M6, leave := ok_leave T M7, beg := ok_beg T CT M17, built := ok_built TE g_max g_tuple (ok_limited TE (PySem.W.mg_of X G vMOST_DEPTH) F26) BT, lim := ok_limited TE (PySem.W.mg_of X G vMOST_DEPTH) F26 }
  have A := allN Sm CT g_max g_tuple ⟨M9, M10, M11, M12, M13, M14, M15, M16, M18⟩ GF (by decide)
  have Pr := ok_prog Sm g_tuple M8 A.ty A.expr
  have Rn := ok_run (P := l.prog) (w := w) (base := base) g_len F16
  have Wd := ok_word (TE := TE) KT Rn F17
  have Nm := ok_num (TE := TE) KT Rn F18
  have Tk := ok_tok KT Wd Nm F19
  have Tz := ok_tokz KT Rn Tk F20
  have In := ok_init T Tz M0
  have Rd := ok_read T (PySem.W.mg_of X G aC) (fun f hm => ⟨mk, hm.at_, hm.fn, kc⟩) In Pr F28
  have Ra := ok_raised XT Rd F33
  have Li := ok_limit Ra F34
  have Ne := ok_nested (P := l.prog) (w := w) (base := base) F35
  have Pi := ok_pick (P := l.prog) (w := w) (base := base) g_len g_int F31
  have Ch := ok_chains Li Pi Ne F36
  have De := ok_decl Ra F37
  have Te := ok_text Pi F32 4
  have St := ok_state (P := l.prog) (w := w) (base := base) g_abs g_len F30
  exact ok_law g_len St Te Pi Ra De Ch (fun_mk (st := topS 38) l38 c38 k38)
theorem walk {l : PySem.W.OpenLaw} {q : Program} {loose : List Str} {XP : (Str → Option Value) → Heap → Prop} {YP : World → Heap → Prop} {d : DefRec} {K : Params → PySem.W.Frag} (hn : l.most = some 63) (hdf : d.params.defaults = [])
    (hY : ∀ (w : World) (h : Heap), YP w h → (K w.params).In h)
    (F : ∀ (w : World) (mg : Str → Option Value) (fa : Addr) (h : Heap), (K w.params).In h → h.Ns mainGlobals mg → mg d.name = some (.ref fa) →
      ∃ fd : FuncData, (∀ (s : Shared) (u : Value), BindsTo s fd ⟨[u], []⟩ [("_law_script", u)]) ∧ ∀ base : Heap, (K w.params).In base → base.Ns mainGlobals mg → FnOk l.prog w (K w.params) mg base CX0 (GF + 12) fa fd ["_law_script"] (spLaw (K w.params))) :
    PySem.W.WalkO q loose XP YP l.row.toRowW d [] (fun f vs => PySem.call f vs) :=
  L2.walk_of (n := 63) (k := GF + 12) (x := "_law_script") (CX := fun _ => CX0) (sp := fun w => spLaw (K w.params)) hn (by decide) hdf ⟨rfl, by decide, by decide⟩ hY F (fun _ _ a ns hl _ hS => ⟨a, ns, rfl, hS, hl, fun _ => rfl⟩) fun _ _ _ _ _ z => z
end Af

open PySem PySem.W PyProof.Rows in
set_option maxRecDepth 100000 in
set_option maxHeartbeats 0 in
theorem PySem.Challenge.cw_askedfor_k02_texts_that_are_refused_holds : PySem.Challenge.rw_askedfor_k02_texts_that_are_refused.Holds := by
  w_on; o_law; k_head; (case hw => w_witness2)
  k_fill
  refine Af.walk (l := PySem.Challenge.rw_askedfor_k02_texts_that_are_refused) rfl rfl (fun w h Y => PySem.W.kIn_of Y) ?F
  case F =>
    intro w mg fa h KX G hmg
    refine' Af.all_mk KX G hmg ?a16 ?l16 ?c16 ?k16 ?a17 ?l17 ?c17 ?k17 ?a18 ?l18 ?c18 ?k18 ?a19 ?l19 ?c19 ?k19 ?a20 ?l20 ?c20 ?k20 ?a26 ?l26 ?c26 ?k26 ?a28 ?l28 ?c28 ?k28 ?a30 ?l30 ?c30 ?k30 ?a31 ?l31 ?c31 ?k31 ?a32 ?l32 ?c32 ?k32 ?a33 ?l33 ?c33 ?k33 ?a34 ?l34 ?c34 ?k34 ?a35 ?l35 ?c35 ?k35 ?a36 ?l36 ?c36 ?k36 ?a37 ?l37 ?c37 ?k37 ?a38 ?l38 ?c38 ?k38 ?aC ?pg ?hd ?po ?sa ?mk ?kc ?n1 ?n2 ?n3 ?n4 ?am0 ?im0 ?lm0 ?cm0 ?km0 ?am1 ?im1 ?lm1 ?cm1 ?km1 ?am2 ?im2 ?lm2 ?cm2 ?km2 ?am3 ?im3 ?lm3 ?cm3 ?km3 ?am4 ?im4 ?lm4 ?cm4 ?km4 ?am5 ?im5 ?lm5 ?cm5 ?km5 ?am6 ?im6 ?lm6 ?cm6 ?km6 ?am7 ?im7 ?lm7 ?cm7 ?km7 ?am8 ?im8 ?lm8 ?cm8 ?km8 ?am9 ?im9 ?lm9 ?cm9 ?km9 ?am10 ?im10 ?lm10 ?cm10 ?km10 ?am11 ?im11 ?lm11 ?cm11 ?km11 ?am12 ?im12 ?lm12 ?cm12 ?km12 ?am13 ?im13 ?lm13 ?cm13 ?km13 ?am14 ?im14 ?lm14 ?cm14 ?km14 ?am15 ?im15 ?lm15 ?cm15 ?km15 ?am16 ?im16 ?lm16 ?cm16 ?km16 ?am17 ?im17 ?lm17 ?cm17 ?km17 ?am18 ?im18 ?lm18 ?cm18 ?km18 ?yR ?yiR ?ytR ?yK ?yiK ?ytK ?yT ?yiT ?ytT ?yX ?yiX ?ytX ?ysR ?yhR ?lR ?nR ?eM ?xLM ?xbM ?saM ?gaM ?ggM ?nbM ?fiM ?tiM ?kCM ?eCM ?tCM ?hCM ?iCM ?sVM ?seM ?clM ?moM ?sRM ?sKM ?sTM ?sXM ?bqM ?xlM ?xcM ?xqM ?xfM ?xvM ?xmM ?xeM ?eU ?xLU ?xbU ?saU ?gaU ?ggU ?nbU ?fiU ?tiU ?kCU ?eCU ?tCU ?hCU ?iCU ?sVU ?seU ?clU ?moU ?sRU ?sKU ?sTU ?sXU ?bqU ?xlU ?xcU ?xqU ?xfU ?xvU ?xmU ?xeU ?mu ?um ?dCMCU ?dCUCM ?dCMzK ?dCMzT ?dCMzX ?dCUzK ?dCUzT ?dCUzX ?op ?hn ?ht ?tp ?no_len ?no_max ?no_tuple ?no_int ?no_abs ?no_isinstance ?no_super ?no_ValueError ?vMOST_TEXT ?vMOST_NAME ?vNUMBERS_END ?vMOST_OPEN ?vMOST_DEPTH ?vLETTERS ?wLETTERS ?vDIGITS ?wDIGITS ?vSIGNS ?wSIGNS ?vWORDS ?uWORDS ?bWORDS ?tWORDS ?wWORDS ?vLONG_SIGNS ?uLONG_SIGNS ?bLONG_SIGNS ?tLONG_SIGNS ?wLONG_SIGNS ?vC ?uC ?eC3 ?h1e ?h2e ?h3e ?s1e ?s2e ?s3e ?lowD ?aB ?lB ?cB ?kB ?tB ?tBd ?tBi ?nE1 ?nE2 ?nE3 ?nE4
    (case a16 => k_is)
    (case l16 => k_is)
    (case c16 => k_is)
    (case k16 => k_is)
    (case a17 => k_is)
    (case l17 => k_is)
    (case c17 => k_is)
    (case k17 => k_is)
    (case a18 => k_is)
    (case l18 => k_is)
    (case c18 => k_is)
    (case k18 => k_is)
    (case a19 => k_is)
    (case l19 => k_is)
    (case c19 => k_is)
    (case k19 => k_is)
    (case a20 => k_is)
    (case l20 => k_is)
    (case c20 => k_is)
    (case k20 => k_is)
    (case a26 => k_is)
    (case l26 => k_is)
    (case c26 => k_is)
    (case k26 => k_is)
    (case a28 => k_is)
    (case l28 => k_is)
    (case c28 => k_is)
    (case k28 => k_is)
    (case a30 => k_is)
    (case l30 => k_is)
    (case c30 => k_is)
    (case k30 => k_is)
    (case a31 => k_is)
    (case l31 => k_is)
    (case c31 => k_is)
    (case k31 => k_is)
    (case a32 => k_is)
    (case l32 => k_is)
    (case c32 => k_is)
    (case k32 => k_is)
    (case a33 => k_is)
    (case l33 => k_is)
    (case c33 => k_is)
    (case k33 => k_is)
    (case a34 => k_is)
    (case l34 => k_is)
    (case c34 => k_is)
    (case k34 => k_is)
    (case a35 => k_is)
    (case l35 => k_is)
    (case c35 => k_is)
    (case k35 => k_is)
    (case a36 => k_is)
    (case l36 => k_is)
    (case c36 => k_is)
    (case k36 => k_is)
    (case a37 => k_is)
    (case l37 => k_is)
    (case c37 => k_is)
    (case k37 => k_is)
    (case a38 => k_is)
    (case l38 => k_is)
    (case c38 => k_is)
    (case k38 => k_is)
    (case aC => k_is)
    (case pg => k_is)
    (case hd => k_is)
    (case po => k_is)
    (case sa => k_is)
    (case mk => k_is)
    (case kc => k_is)
    (case n1 => k_is)
    (case n2 => k_is)
    (case n3 => k_is)
    (case n4 => k_is)
    (case am0 => k_is)
    (case im0 => k_is)
    (case lm0 => k_is)
    (case cm0 => k_is)
    (case km0 => k_is)
    (case am1 => k_is)
    (case im1 => k_is)
    (case lm1 => k_is)
    (case cm1 => k_is)
    (case km1 => k_is)
    (case am2 => k_is)
    (case im2 => k_is)
    (case lm2 => k_is)
    (case cm2 => k_is)
    (case km2 => k_is)
    (case am3 => k_is)
    (case im3 => k_is)
    (case lm3 => k_is)
    (case cm3 => k_is)
    (case km3 => k_is)
    (case am4 => k_is)
    (case im4 => k_is)
    (case lm4 => k_is)
    (case cm4 => k_is)
    (case km4 => k_is)
    (case am5 => k_is)
    (case im5 => k_is)
    (case lm5 => k_is)
    (case cm5 => k_is)
    (case km5 => k_is)
    (case am6 => k_is)
    (case im6 => k_is)
    (case lm6 => k_is)
    (case cm6 => k_is)
    (case km6 => k_is)
    (case am7 => k_is)
    (case im7 => k_is)
    (case lm7 => k_is)
    (case cm7 => k_is)
    (case km7 => k_is)
    (case am8 => k_is)
    (case im8 => k_is)
    (case lm8 => k_is)
    (case cm8 => k_is)
    (case km8 => k_is)
    (case am9 => k_is)
    (case im9 => k_is)
    (case lm9 => k_is)
    (case cm9 => k_is)
    (case km9 => k_is)
    (case am10 => k_is)
    (case im10 => k_is)
    (case lm10 => k_is)
    (case cm10 => k_is)
    (case km10 => k_is)
    (case am11 => k_is)
    (case im11 => k_is)
    (case lm11 => k_is)
    (case cm11 => k_is)
    (case km11 => k_is)
    (case am12 => k_is)
    (case im12 => k_is)
    (case lm12 => k_is)
    (case cm12 => k_is)
    (case km12 => k_is)
    (case am13 => k_is)
    (case im13 => k_is)
    (case lm13 => k_is)
    (case cm13 => k_is)
    (case km13 => k_is)
    (case am14 => k_is)
    (case im14 => k_is)
    (case lm14 => k_is)
    (case cm14 => k_is)
    (case km14 => k_is)
    (case am15 => k_is)
    (case im15 => k_is)
    (case lm15 => k_is)
    (case cm15 => k_is)
    (case km15 => k_is)
    (case am16 => k_is)
    (case im16 => k_is)
    (case lm16 => k_is)
    (case cm16 => k_is)
    (case km16 => k_is)
    (case am17 => k_is)
    (case im17 => k_is)
    (case lm17 => k_is)
    (case cm17 => k_is)
    (case km17 => k_is)
    (case am18 => k_is)
    (case im18 => k_is)
    (case lm18 => k_is)
    (case cm18 => k_is)
    (case km18 => k_is)
    (case yR => k_is)
    (case yiR => k_is)
    (case ytR => k_is)
    (case yK => k_is)
    (case yiK => k_is)
    (case ytK => k_is)
    (case yT => k_is)
    (case yiT => k_is)
    (case ytT => k_is)
    (case yX => k_is)
    (case yiX => k_is)
    (case ytX => k_is)
    (case ysR => k_is)
    (case yhR => k_is)
    (case lR => k_is)
    (case nR => k_is)
    (case eM => k_is)
    (case xLM => k_is)
    (case xbM => decide +kernel)
    (case saM => k_is)
    (case gaM => k_is)
    (case ggM => k_is)
    (case nbM => k_is)
    (case fiM => k_is)
    (case tiM => k_is)
    (case kCM => k_is)
    (case eCM => k_is)
    (case tCM => k_is)
    (case hCM => k_is)
    (case iCM => k_is)
    (case sVM => k_is)
    (case seM => k_is)
    (case clM => k_is)
    (case moM => k_is)
    (case sRM => k_is)
    (case sKM => k_is)
    (case sTM => k_is)
    (case sXM => k_is)
    (case bqM => rfl)
    (case xlM => k_is)
    (case xcM => k_is)
    (case xqM => rfl)
    (case xfM => k_is)
    (case xvM => rfl)
    (case xmM => decide +kernel)
    (case xeM => k_is)
    (case eU => k_is)
    (case xLU => k_is)
    (case xbU => decide +kernel)
    (case saU => k_is)
    (case gaU => k_is)
    (case ggU => k_is)
    (case nbU => k_is)
    (case fiU => k_is)
    (case tiU => k_is)
    (case kCU => k_is)
    (case eCU => k_is)
    (case tCU => k_is)
    (case hCU => k_is)
    (case iCU => k_is)
    (case sVU => k_is)
    (case seU => k_is)
    (case clU => k_is)
    (case moU => k_is)
    (case sRU => k_is)
    (case sKU => k_is)
    (case sTU => k_is)
    (case sXU => k_is)
    (case bqU => rfl)
    (case xlU => k_is)
    (case xcU => k_is)
    (case xqU => rfl)
    (case xfU => k_is)
    (case xvU => rfl)
    (case xmU => decide +kernel)
    (case xeU => k_is)
    (case mu => k_is)
    (case um => k_is)
    (case dCMCU => decide +kernel)
    (case dCUCM => decide +kernel)
    (case dCMzK => decide +kernel)
    (case dCMzT => decide +kernel)
    (case dCMzX => decide +kernel)
    (case dCUzK => decide +kernel)
    (case dCUzT => decide +kernel)
    (case dCUzX => decide +kernel)
    (case op => k_is)
    (case hn => k_is)
    (case ht => k_is)
    (case tp => decide +kernel)
    (case no_len => k_is)
    (case no_max => k_is)
    (case no_tuple => k_is)
    (case no_int => k_is)
    (case no_abs => k_is)
    (case no_isinstance => k_is)
    (case no_super => k_is)
    (case no_ValueError => k_is)
    (case vMOST_TEXT => k_is)
    (case vMOST_NAME => k_is)
    (case vNUMBERS_END => k_is)
    (case vMOST_OPEN => k_is)
    (case vMOST_DEPTH => k_is)
    (case vLETTERS => k_is)
    (case wLETTERS => decide +kernel)
    (case vDIGITS => k_is)
    (case wDIGITS => decide +kernel)
    (case vSIGNS => k_is)
    (case wSIGNS => decide +kernel)
    (case vWORDS => k_is)
    (case uWORDS => k_is)
    (case bWORDS => rfl)
    (case tWORDS => rfl)
    (case wWORDS => decide +kernel)
    (case vLONG_SIGNS => k_is)
    (case uLONG_SIGNS => k_is)
    (case bLONG_SIGNS => rfl)
    (case tLONG_SIGNS => rfl)
    (case wLONG_SIGNS => decide +kernel)
    (case vC => k_is)
    (case uC => k_is)
    (case eC3 => rfl)
    (case h1e => rfl)
    (case h2e => rfl)
    (case h3e => rfl)
    (case s1e => decide +kernel)
    (case s2e => decide +kernel)
    (case s3e => decide +kernel)
    (case lowD => decide +kernel)
    (case aB => k_is)
    (case lB => k_is)
    (case cB => k_is)
    (case kB => k_is)
    (case tB => k_is)
    (case tBd => rfl)
    (case tBi => rfl)
    (case nE1 => k_is)
    (case nE2 => rfl)
    (case nE3 => rfl)
    (case nE4 => rfl)
