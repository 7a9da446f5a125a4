import PyProof.Rows.All
import PySem.Str
import Wide.All
import OpenK.AllK
import Wide.FinOn
import KE.KExcSuper
import HandS.Base
import HandS.Call
import HandS.Exc
import HandS.ExcOwn
import HandS.HotCalls
import HandS.ExcInit
import HandS.List
import HandS.ExcIs
import HandS.ExcField
import HandS.IsInst
import HandS.ForMost
import HandS.ForExc
import HandS.Flow
import HandS.Style
import HandS.HeadNt
import HandS.Evl
import HandS.Head0
import HandS.Head1
import HandS.Head2
import HandS.HeadEnd
import HandS.HeadHook1
import HandS.HeadHook2
import KE.KStateDown
import Lean
import HandS.Ends
import HandS.More
import HandS.Words
import HandS.WordsExc
import HandS.Defaults
import PySem.Challenge.RW_hedgejoin_k95_whole_orders_read_and_writ
section
set_option Elab.async false
set_option maxRecDepth 100000
namespace Hj
open PySem

/-! ### the words -/
def kJoin : Str := "join"
def kClear : Str := "clear"
def kIf : Str := "if"
def kWhile : Str := "while"
def kUntil : Str := "until"
def kEach : Str := "each"
def kEnd : Str := "end"
def kElse : Str := "else"
def kDo : Str := "do"
def kNot : Str := "not"
def kTog : Str := "together"
def kOpen : Str := "open"

def letters : List Nat := (List.range 26).map (· + 97)
def signs36 : List Nat := letters ++ (List.range 10).map (· + 48)
/-- a name -/
def isNm (w : Str) : Bool :=
  decide (1 ≤ w.length) && (decide (w.length ≤ 8) && ((match w.cps.toList with
    | c :: _ => letters.contains c
    | [] => false) && w.cps.toList.all fun c => signs36.contains c))
/-- a variable -/
def isVar (w : Str) : Bool := match w.cps.toList with
  | [c] => decide (65 ≤ c) && decide (c ≤ 90)
  | _ => false
def isTerm (sc : List Str) (w : Str) : Bool := isNm w || sc.contains w

/-! ### orders -/
structure Tst where
  neg : Bool
  w : Str
  x : Str
  y : Str
  deriving DecidableEq
def opp (t : Tst) : Tst := { t with neg := !t.neg }
theorem opp_opp (t : Tst) : opp (opp t) = t := by cases t; simp [opp]

inductive Stm where
  | join (x y : Str)
  | clear (g : Str)
  | ite (t : Tst) (b o : List Stm)
  | wh (t : Tst) (b : List Stm)
  | each (v : Str) (b : List Stm)

mutual
def cntS : Stm → Nat
  | .join _ _ => 1
  | .clear _ => 1
  | .ite _ b o => 1 + cntO b + cntO o
  | .wh _ b => 1 + cntO b
  | .each _ b => 1 + cntO b
def cntO : List Stm → Nat
  | [] => 0
  | s :: r => cntS s + cntO r
end
mutual
def depS : Stm → Nat
  | .join _ _ => 0
  | .clear _ => 0
  | .ite _ b o => 1 + max (depO b) (depO o)
  | .wh _ b => 1 + depO b
  | .each _ b => 1 + depO b
def depO : List Stm → Nat
  | [] => 0
  | s :: r => max (depS s) (depO r)
end
theorem cntO_app : ∀ a b : List Stm, cntO (a ++ b) = cntO a + cntO b
  | [], b => by simp [cntO]
  | s :: r, b => by simp [cntO, cntO_app r b]; omega
theorem depO_app : ∀ a b : List Stm, depO (a ++ b) = max (depO a) (depO b)
  | [], b => by simp [depO]
  | s :: r, b => by simp [depO, depO_app r b, Nat.max_assoc]

def okTst (sc : List Str) (t : Tst) : Prop := (t.w = kTog ∨ t.w = kOpen) ∧ isTerm sc t.x = true ∧ isTerm sc t.y = true
mutual
def okS : List Str → Stm → Prop
  | sc, .join x y => isTerm sc x = true ∧ isTerm sc y = true
  | sc, .clear g => isTerm sc g = true
  | sc, .ite t b o => okTst sc t ∧ okO sc b ∧ okO sc o
  | sc, .wh t b => okTst sc t ∧ okO sc b
  | sc, .each v b => isVar v = true ∧ okO (v :: sc) b
def okO : List Str → List Stm → Prop
  | _, [] => True
  | sc, s :: r => okS sc s ∧ okO sc r
end
theorem okO_app {sc : List Str} : ∀ a b : List Stm, okO sc (a ++ b) ↔ okO sc a ∧ okO sc b
  | [], b => by simp [okO]
  | s :: r, b => by simp [okO, okO_app r b, and_assoc]

/-! ### writing -/
def wT (t : Tst) : List Str := if t.neg then [kNot, t.w, t.x, t.y] else [t.w, t.x, t.y]
mutual
def wS : Stm → List Str
  | .join x y => [kJoin, x, y]
  | .clear g => [kClear, g]
  | .ite t b o => kIf :: (wT t ++ (kDo :: (wO b ++ ((match o with
      | [] => []
      | s :: r => kElse :: (wS s ++ wO r)) ++ [kEnd]))))
  | .wh t b => (if t.neg then kUntil :: wT (opp t) else kWhile :: wT t) ++ (kDo :: (wO b ++ [kEnd]))
  | .each v b => kEach :: v :: kDo :: (wO b ++ [kEnd])
def wO : List Stm → List Str
  | [] => []
  | s :: r => wS s ++ wO r
end
def wElse : List Stm → List Str
  | [] => []
  | s :: r => kElse :: wO (s :: r)
theorem wS_ite (t : Tst) (b o : List Stm) : wS (.ite t b o) = kIf :: (wT t ++ (kDo :: (wO b ++ (wElse o ++ [kEnd])))) := by
  cases o <;> simp [wS, wElse, wO]
theorem wO_app : ∀ a b : List Stm, wO (a ++ b) = wO a ++ wO b
  | [], b => by simp [wO]
  | s :: r, b => by simp [wO, wO_app r b]

/-! ### the looser writings: Wr false is the strict one alone -/
mutual
inductive WrS : Bool → Stm → List Str → Prop
  | join {l x y} : WrS l (.join x y) [kJoin, x, y]
  | clear {l g} : WrS l (.clear g) [kClear, g]
  | each {l v b ws} : WrO l b ws → WrS l (.each v b) (kEach :: v :: kDo :: (ws ++ [kEnd]))
  | ite {l t b o ws us} : WrO l b ws → WrE l o us → WrS l (.ite t b o) (kIf :: (wT t ++ (kDo :: (ws ++ (us ++ [kEnd])))))
  | wh {l t b ws} : t.neg = false → WrO l b ws → WrS l (.wh t b) (kWhile :: (wT t ++ (kDo :: (ws ++ [kEnd]))))
  | un {l t b ws} : t.neg = true → WrO l b ws → WrS l (.wh t b) (kUntil :: (wT (opp t) ++ (kDo :: (ws ++ [kEnd]))))
  | whN {t b ws} : t.neg = true → WrO true b ws → WrS true (.wh t b) (kWhile :: (wT t ++ (kDo :: (ws ++ [kEnd]))))
  | unN {t b ws} : t.neg = false → WrO true b ws → WrS true (.wh t b) (kUntil :: (wT (opp t) ++ (kDo :: (ws ++ [kEnd]))))
inductive WrE : Bool → List Stm → List Str → Prop
  | none {l} : WrE l [] []
  | some {l o ws} : o ≠ [] → WrO l o ws → WrE l o (kElse :: ws)
  | odd : WrE true [] [kElse]
inductive WrO : Bool → List Stm → List Str → Prop
  | nil {l} : WrO l [] []
  | cons {l s r ws us} : WrS l s ws → WrO l r us → WrO l (s :: r) (ws ++ us)
end
theorem wO_nil {l : Bool} {ws : List Str} (h : WrO l [] ws) : ws = [] := by cases h; rfl
mutual
theorem WrS.strict : ∀ {s : Stm} {ws : List Str}, WrS false s ws → ws = wS s
  | _, _, .join => by simp [wS]
  | _, _, .clear => by simp [wS]
  | _, _, .each h => by simp [wS, WrO.strict h]
  | _, _, .ite h1 h2 => by rw [wS_ite, WrO.strict h1, WrE.strict h2]
  | _, _, .wh hn h => by simp [wS, WrO.strict h, hn]
  | _, _, .un hn h => by simp [wS, WrO.strict h, hn]
theorem WrE.strict : ∀ {o : List Stm} {ws : List Str}, WrE false o ws → ws = wElse o
  | _, _, .none => rfl
  | [], _, .some h1 _ => absurd rfl h1
  | s :: r, _, .some _ h2 => by rw [WrO.strict h2]; rfl
theorem WrO.strict : ∀ {o : List Stm} {ws : List Str}, WrO false o ws → ws = wO o
  | _, _, .nil => by simp [wO]
  | _, _, .cons h1 h2 => by rw [WrS.strict h1, WrO.strict h2]; simp [wO]
end
theorem WrO.app {l : Bool} : ∀ {a b : List Stm} {ws us : List Str}, WrO l a ws → WrO l b us → WrO l (a ++ b) (ws ++ us)
  | _, _, _, _, .nil, h => h
  | _, _, _, _, .cons h1 h2, h => by
    rw [List.append_assoc]
    exact .cons h1 (WrO.app h2 h)

/-! ### the reader of words -/
inductive Hd where
  | root
  | each (v : Str)
  | ife (t : Tst)
  | whl (t : Tst)
structure Fr where
  hd : Hd
  cur : List Stm
  oth : Option (List Stm)
inductive TK where
  | ife | whl | unt
  deriving DecidableEq
inductive Pend where
  | join0 | join1 (x : Str) | clear0 | each0 | each1 (v : Str)
  | t0 (k : TK) | tn (k : TK) | tw (k : TK) (n : Bool) (w : Str) | tx (k : TK) (n : Bool) (w x : Str) | ty (k : TK) (n : Bool) (w x y : Str)
  deriving DecidableEq
structure MS where
  stk : List Fr
  pend : Option Pend
  many : Nat
  deep : Nat
inductive Nx where
  | more (p : Pend) | stm (s : Stm) | opn (h : Hd)
def mkHd : TK → Tst → Hd
  | .ife, t => .ife t
  | .whl, t => .whl t
  | .unt, t => .whl (opp t)
def pnext (sc : List Str) : Pend → Str → Option Nx
  | .join0, w => if isTerm sc w = true then some (.more (.join1 w)) else none
  | .join1 x, w => if isTerm sc w = true then some (.stm (.join x w)) else none
  | .clear0, w => if isTerm sc w = true then some (.stm (.clear w)) else none
  | .each0, w => if isVar w = true then some (.more (.each1 w)) else none
  | .each1 v, w => if w = kDo then some (.opn (.each v)) else none
  | .t0 k, w => if w = kNot then some (.more (.tn k)) else if w = kTog ∨ w = kOpen then some (.more (.tw k false w)) else none
  | .tn k, w => if w = kTog ∨ w = kOpen then some (.more (.tw k true w)) else none
  | .tw k n w, x => if isTerm sc x = true then some (.more (.tx k n w x)) else none
  | .tx k n w x, y => if isTerm sc y = true then some (.more (.ty k n w x y)) else none
  | .ty k n w x y, d => if d = kDo then some (.opn (mkHd k ⟨n, w, x, y⟩)) else none
def scp : List Fr → List Str
  | [] => []
  | f :: r => match f.hd with
    | .each v => v :: scp r
    | _ => scp r
def addS (s : Stm) : List Fr → List Fr
  | [] => []
  | f :: r => { f with cur := f.cur ++ [s] } :: r
def clo (f : Fr) : Stm := match f.hd with
  | .root => .clear kEnd
  | .each v => .each v f.cur
  | .whl t => .wh t f.cur
  | .ife t => match f.oth with
    | none => .ite t f.cur []
    | some b => .ite t b f.cur
def begins (w : Str) : Option Pend :=
  if w = kJoin then some .join0 else if w = kClear then some .clear0 else if w = kEach then some .each0 else
  if w = kIf then some (.t0 .ife) else if w = kWhile then some (.t0 .whl) else if w = kUntil then some (.t0 .unt) else none
def mElse : List Fr → Option (List Fr)
  | ⟨.ife t, cur, none⟩ :: r => some (⟨.ife t, [], some cur⟩ :: r)
  | _ => none
def mEnd : List Fr → Option (List Fr)
  | f :: g :: r => some (addS (clo f) (g :: r))
  | _ => none
def mfree (s : MS) (w : Str) : Option MS := match begins w with
  | some p => some { s with pend := some p, many := s.many + 1 }
  | none => if w = kElse then (mElse s.stk).map fun k => { s with stk := k } else if w = kEnd then (mEnd s.stk).map fun k => { s with stk := k } else none
def mgo (s : MS) : Nx → MS
  | .more p => { s with pend := some p }
  | .stm t => { s with pend := none, stk := addS t s.stk }
  | .opn h => { s with pend := none, stk := ⟨h, [], none⟩ :: s.stk, deep := max s.deep s.stk.length }
def mstep (s : MS) (w : Str) : Option MS := match s.pend with
  | none => mfree s w
  | some p => (pnext (scp s.stk) p w).map (mgo s)
inductive Res where
  | bad (n : Nat) | many (n : Nat) | deep (n : Nat) | told (o : List Stm) (n d : Nat)
def rootOf : List Fr → List Stm
  | [f] => f.cur
  | _ => []
def mend (s : MS) : Res :=
  if s.pend.isSome = true ∨ 1 < s.stk.length then .bad 0 else if 12 < s.many then .many s.many else if 3 < s.deep then .deep s.deep else .told (rootOf s.stk) s.many s.deep
def mtot : MS → List Str → Res
  | s, [] => mend s
  | s, w :: r => match mstep s w with
    | none => .bad (r.length + 1)
    | some t => mtot t r
def m0 : MS := ⟨[⟨.root, [], none⟩], none, 0, 0⟩
def readW (ws : List Str) : Res := mtot m0 ws

/-! ### the words are not one another -/
theorem b_join : begins kJoin = some .join0 := by decide +kernel
theorem b_clear : begins kClear = some .clear0 := by decide +kernel
theorem b_each : begins kEach = some .each0 := by decide +kernel
theorem b_if : begins kIf = some (.t0 .ife) := by decide +kernel
theorem b_while : begins kWhile = some (.t0 .whl) := by decide +kernel
theorem b_until : begins kUntil = some (.t0 .unt) := by decide +kernel
theorem b_end : begins kEnd = none := by decide +kernel
theorem b_else : begins kElse = none := by decide +kernel
theorem end_else : ¬ kEnd = kElse := by decide +kernel
theorem tog_not : ¬ kTog = kNot := by decide +kernel
theorem open_not : ¬ kOpen = kNot := by decide +kernel

/-! ### reading what was written -/
/-- behind an order: the statements are there, they are counted, the depth is told -/
def put (s : MS) (f : Fr) (r : List Fr) (o : List Stm) : MS := ⟨{ f with cur := f.cur ++ o } :: r, none, s.many + cntO o, max s.deep (r.length + depO o)⟩
theorem mtot_tst {sc : List Str} {t : Tst} (ht : okTst sc t) (k : TK) (s : MS) (hs : scp s.stk = sc) (hp : s.pend = some (.t0 k)) (rest : List Str) :
    mtot s (wT t ++ (kDo :: rest)) = mtot { s with pend := none, stk := ⟨mkHd k t, [], none⟩ :: s.stk, deep := max s.deep s.stk.length } rest := by
  obtain ⟨stk, pend, many, deep⟩ := s
  obtain ⟨n, w, x, y⟩ := t
  obtain ⟨hw, hx, hy⟩ := ht
  simp only at hp hs hw hx hy
  subst hp hs
  have hn : ¬ w = kNot := by
    rcases hw with rfl | rfl
    · exact tog_not
    · exact open_not
  cases n with
  | false => simp [wT, mtot, mstep, pnext, mgo, hw, hx, hy, hn]
  | true => simp [wT, mtot, mstep, pnext, mgo, hw, hx, hy]
theorem mtot_kw {s : MS} (hp : s.pend = none) {w : Str} {p : Pend} (hb : begins w = some p) (rest : List Str) : mtot s (w :: rest) = mtot { s with pend := some p, many := s.many + 1 } rest := by
  obtain ⟨stk, pend, many, deep⟩ := s
  simp only at hp
  subst hp
  simp [mtot, mstep, mfree, hb]
theorem mtot_end {s : MS} (hp : s.pend = none) {f g : Fr} {r : List Fr} (hk : s.stk = f :: g :: r) (rest : List Str) : mtot s (kEnd :: rest) = mtot { s with stk := addS (clo f) (g :: r) } rest := by
  obtain ⟨stk, pend, many, deep⟩ := s
  simp only at hp hk
  subst hp hk
  simp [mtot, mstep, mfree, b_end, end_else, mEnd]
theorem mtot_else {s : MS} (hp : s.pend = none) {t : Tst} {c : List Stm} {r : List Fr} (hk : s.stk = ⟨.ife t, c, none⟩ :: r) (rest : List Str) : mtot s (kElse :: rest) = mtot { s with stk := ⟨.ife t, [], some c⟩ :: r } rest := by
  obtain ⟨stk, pend, many, deep⟩ := s
  simp only at hp hk
  subst hp hk
  simp [mtot, mstep, mfree, b_else, mElse]
mutual
theorem read_S {l : Bool} : ∀ {st : Stm} {ws : List Str}, WrS l st ws → ∀ (s : MS) (f : Fr) (r : List Fr) (rest : List Str), s.pend = none → s.stk = f :: r → okS (scp (f :: r)) st →
    r.length ≤ s.deep → mtot s (ws ++ rest) = mtot (put s f r [st]) rest
  | _, _, .join (x := x) (y := y), s, f, r, rest, hp, hk, ho, hd => by
    obtain ⟨hx, hy⟩ := ho
    rw [List.cons_append, mtot_kw hp b_join]
    simp [mtot, mstep, pnext, mgo, hk, hx, hy, addS, put, cntO, cntS, depO, depS]
    rw [Nat.max_eq_left hd]
  | _, _, .clear (g := g), s, f, r, rest, hp, hk, ho, hd => by
    have hg : isTerm (scp (f :: r)) g = true := ho
    rw [List.cons_append, mtot_kw hp b_clear]
    simp [mtot, mstep, pnext, mgo, hk, hg, addS, put, cntO, cntS, depO, depS]
    rw [Nat.max_eq_left hd]
  | _, _, .each (v := v) (b := b) (ws := ws) h, s, f, r, rest, hp, hk, ho, hd => by
    obtain ⟨hv, hb⟩ := ho
    rw [List.cons_append, mtot_kw hp b_each]
    have e1 : ∀ rest, mtot { s with pend := some .each0, many := s.many + 1 } (v :: kDo :: rest) = mtot ⟨⟨.each v, [], none⟩ :: f :: r, none, s.many + 1, max s.deep (r.length + 1)⟩ rest := fun rest => by
      simp [mtot, mstep, pnext, mgo, hk, hv]
    rw [show (v :: kDo :: (ws ++ [kEnd])) ++ rest = v :: kDo :: (ws ++ (kEnd :: rest)) by simp, e1]
    rw [read_O h _ ⟨.each v, [], none⟩ (f :: r) _ rfl rfl hb (by simp; omega)]
    rw [mtot_end rfl rfl]
    simp [put, clo, addS, cntO, cntS, depO, depS]
    refine congrArg (fun z => mtot z rest) ?_
    simp
    omega
  | _, _, .ite (t := t) (b := b) (o := o) (ws := ws) (us := us) h1 h2, s, f, r, rest, hp, hk, ho, hd => by
    obtain ⟨ht, hb, ho2⟩ := ho
    rw [List.cons_append, mtot_kw hp b_if]
    rw [show (wT t ++ (kDo :: (ws ++ (us ++ [kEnd])))) ++ rest = wT t ++ (kDo :: (ws ++ (us ++ (kEnd :: rest)))) by simp]
    rw [mtot_tst ht .ife _ (by simp only [hk]) rfl]
    simp only [hk]
    rw [read_O h1 _ ⟨mkHd .ife t, [], none⟩ (f :: r) _ rfl rfl hb (by simp; omega)]
    cases h2 with
    | none =>
      rw [List.nil_append, mtot_end rfl rfl]
      refine congrArg (fun z => mtot z rest) ?_
      simp [put, clo, addS, cntO, cntS, depO, depS, mkHd]
      omega
    | odd =>
      rw [List.cons_append, List.nil_append, mtot_else rfl rfl, mtot_end rfl rfl]
      refine congrArg (fun z => mtot z rest) ?_
      simp [put, clo, addS, cntO, cntS, depO, depS, mkHd]
      omega
    | some hne h3 =>
      rw [List.cons_append, mtot_else rfl rfl]
      rw [read_O h3 _ ⟨.ife t, [], some ([] ++ b)⟩ (f :: r) _ rfl rfl ho2 (by simp [put]; omega)]
      rw [mtot_end rfl rfl]
      refine congrArg (fun z => mtot z rest) ?_
      simp [put, clo, addS, cntO, cntS, depO, depS, mkHd]
      omega
  | _, _, .wh (t := t) (b := b) (ws := ws) hn h, s, f, r, rest, hp, hk, ho, hd => by
    rw [List.cons_append, mtot_kw hp b_while]
    exact read_W h .whl t rfl rest hk ho hd
  | _, _, .un (t := t) (b := b) (ws := ws) hn h, s, f, r, rest, hp, hk, ho, hd => by
    rw [List.cons_append, mtot_kw hp b_until]
    exact read_W h .unt (opp t) (by simp [mkHd, opp_opp]) rest hk ho hd
  | _, _, .whN (t := t) (b := b) (ws := ws) hn h, s, f, r, rest, hp, hk, ho, hd => by
    rw [List.cons_append, mtot_kw hp b_while]
    exact read_W h .whl t rfl rest hk ho hd
  | _, _, .unN (t := t) (b := b) (ws := ws) hn h, s, f, r, rest, hp, hk, ho, hd => by
    rw [List.cons_append, mtot_kw hp b_until]
    exact read_W h .unt (opp t) (by simp [mkHd, opp_opp]) rest hk ho hd
theorem read_W {l : Bool} {b : List Stm} {ws : List Str} (h : WrO l b ws) (k : TK) (u : Tst) {t : Tst} (hu : mkHd k u = .whl t) {s : MS} {f : Fr} {r : List Fr} (rest : List Str) (hk : s.stk = f :: r)
    (ho : okS (scp (f :: r)) (.wh t b)) (hd : r.length ≤ s.deep) :
    mtot { s with pend := some (.t0 k), many := s.many + 1 } ((wT u ++ (kDo :: (ws ++ [kEnd]))) ++ rest) = mtot (put s f r [.wh t b]) rest := by
  obtain ⟨ht, hb⟩ := ho
  have hu2 : okTst (scp (f :: r)) u := by
    cases k with
    | ife => cases hu
    | whl =>
      have e : u = t := by injection hu
      rw [e]; exact ht
    | unt =>
      have e : opp u = t := by injection hu
      subst e
      exact ht
  rw [show (wT u ++ (kDo :: (ws ++ [kEnd]))) ++ rest = wT u ++ (kDo :: (ws ++ (kEnd :: rest))) by simp]
  rw [mtot_tst hu2 k _ (by simp only [hk]) rfl, hu]
  simp only [hk]
  rw [read_O h _ ⟨.whl t, [], none⟩ (f :: r) _ rfl rfl hb (by simp; omega)]
  rw [mtot_end rfl rfl]
  refine congrArg (fun z => mtot z rest) ?_
  simp [put, clo, addS, cntO, cntS, depO, depS]
  omega
theorem read_O {l : Bool} : ∀ {o : List Stm} {ws : List Str}, WrO l o ws → ∀ (s : MS) (f : Fr) (r : List Fr) (rest : List Str), s.pend = none → s.stk = f :: r → okO (scp (f :: r)) o →
    r.length ≤ s.deep → mtot s (ws ++ rest) = mtot (put s f r o) rest
  | _, _, .nil, s, f, r, rest, hp, hk, ho, hd => by
    obtain ⟨stk, pend, many, deep⟩ := s
    simp only at hp hk hd
    subst hp hk
    simp [put, cntO, depO, Nat.max_eq_left hd]
  | _, _, .cons (s := st) (r := o) (ws := ws) (us := us) h1 h2, s, f, r, rest, hp, hk, ho, hd => by
    obtain ⟨h3, h4⟩ := ho
    rw [List.append_assoc, read_S h1 s f r _ hp hk h3 hd]
    rw [read_O h2 _ { f with cur := f.cur ++ [st] } r rest rfl rfl h4 (by simp [put]; omega)]
    refine congrArg (fun z => mtot z rest) ?_
    simp [put, cntO, depO]
    omega
end
/-- an order's text, looser or not, is read as the order -/
theorem read_back {l : Bool} {o : List Stm} {ws : List Str} (h : WrO l o ws) (hv : okO [] o) (hc : cntO o ≤ 12) (hd : depO o ≤ 3) : readW ws = .told o (cntO o) (depO o) := by
  have e := read_O h m0 ⟨.root, [], none⟩ [] [] rfl rfl hv (Nat.zero_le _)
  rw [List.append_nil] at e
  unfold readW
  rw [e]
  simp [mtot, mend, put, m0, rootOf, Nat.not_lt.mpr hc, Nat.not_lt.mpr hd]
end Hj
end
section
set_option Elab.async false
set_option linter.all false
set_option maxRecDepth 100000
set_option maxHeartbeats 2000000
namespace PySem
namespace HjX
open PySem.W PySem.Calls PyProof.Rows PySem.HandSPX
/-- a class of the program over HedgeError, which is over ValueError; its __init__ at fI, whose code stands at cda and whose __class__ in the cell cc -/
structure ExT (K : Frag) (mg : Str → Option Value) (C fI cda cc : Addr) (file qual : Str) (ar : Arguments) (body : List Stmt) (sc : Scope) : Prop where
  cls : ∃ nm q N bs bm sn sub ab col dd k0 k1 k2 k3 k5, K.lookup C = some (excClassObj nm q C N bs bm true sn sub ab col dd k0 k1 k2 k3 k5 "ValueError.__new__") ∧ refsVE bm = true
  sa : findIn K (.ref C) "__setattr__" = some (some (.builtin "object.__setattr__"))
  iC : findIn K (.ref C) "__init__" = some (some (.ref fI))
  tC : typeIn K (.ref fI) = some (.type "function")
  kC : keepIn K (.ref C) = true
  exC : subIn K (.ref C) (.type "BaseException") = some true
  veC : subIn K (.ref C) (.type "ValueError") = some true
  tyC : typeIn K (.ref C) = some (.type "type")
  qI : excInitIn K C veTail "ValueError.__new__" = true
  sup : ks_superIn K C C "__init__" = some (some (.builtin "ValueError.__init__"))
  opq : nsIn K cStatics "thirdparty.any" = some none
  cod : ∃ ccl cdd vs ccs tf, K.lookup cda = some ⟨ccl, cdd, .fields vs, ccs⟩ ∧ vs[2]? = some (.str file tf)
  cel : ∃ cl cld csl, K.lookup cc = some ⟨cl, cld, .cell (some (.ref C)), csl⟩
  mro : mroIn K C (.ref C) = some true
  sp0 : mg "super" = none
  fn : ∃ oc od kV doc pm an ct osl, K.lookup fI = some ⟨oc, od, .func (ksFn "__init__" qual ar body sc .none kV doc pm an (.ref cda) ct cc), osl⟩ ∧ codeIn K (.ref cda) qual = true

section
variable {prog : Program} {w : World} {A : Around} {E : Value → Shared → Prop} {s : Shared} {K : Frag} {mg mb : Str → Option Value} {C fI cda cc L x t0 : Addr} {file qual : Str} {ar : Arguments} {body rest : List Stmt} {sc : Scope} {base : Heap} {m : Str → Option Value}
/-- the row super().__init__(msg) -/
theorem super_row (T : ExT K mg C fI cda cc file qual ar body sc) {msg : Str} {p0 p1 p2 p3 p4 p5 : Pos} {Q : Flow → Shared → Prop} {a0 : Arg}
    (F : Fr base L s.heap m) (X0 : K.In base) (hg : base.Ns mainGlobals mg) (hb : base.Ns builtinsNs mb) (hbb : ∀ y : Str, y ≠ "__name__" → mb y = bootBuiltins y)
    (hfile : ((prog.main.file : Str) == file) = true) (htop : (prog.main.scope.names.lookup ("super" : Str)).isSome = false)
    (ha : (ar.posonlyargs ++ ar.args).head? = some a0) (hk : sc.kind = .function) (hks : sc.names.lookup ("super" : Str) = some .globalImplicit) (hkc : sc.names.lookup ("__class__" : Str) = some .free) (hka : sc.names.lookup a0.arg = some .local)
    (hm : m a0.arg = some (.ref x)) (hx : s.heap.get? x = some (excO C t0)) (hbx : base.get? x = none) (hxL : x ≠ L)
    (hin : interactive (ksEnv qual sc L fI (.ref cda) cc) = false) {pl : Sem Bool}
    (hev : eval (.Call (.Attribute (.Call (.Name "super" p0) [] [] p1) "__init__" p2) [.Constant (.str msg) 0 p3] [] p4) (ksEnv qual sc L fI (.ref cda) cc) = (do
      let a0v ← attributeBase (.Call (.Name "super" p0) [] [] p1) "__init__" (ksEnv qual sc L fI (.ref cda) cc) (eval (.Call (.Name "super" p0) [] [] p1) (ksEnv qual sc L fI (.ref cda) cc))
      standAt p2.atName
      let (f1, f2) ← holding [a0v] (getMethod a0v "__init__" pl)
      callWith p4 f1 f2 (backTo p4 (starEach [.Constant (.str msg) 0 p3] (ksEnv qual sc L fI (.ref cda) cc))) []))
    (hq : ∀ h' tk t1, Fr base L h' m → (∀ b o, b ≠ L → b ≠ x → s.heap.get? b = some o → h'.get? b = some o) → h'.get? x = some (excO C t1) → Q .next { s with heap := h', toks := tk }) :
    _root_.PySem.wpAt (model prog w) A (.func body (ksEnv qual sc L fI (.ref cda) cc))
      (exec (.Expr (.Call (.Attribute (.Call (.Name "super" p0) [] [] p1) "__init__" p2) [.Constant (.str msg) 0 p3] [] p4) p5) (ksEnv qual sc L fI (.ref cda) cc)) Q E s := by
  obtain ⟨oc, od, kV, doc, pm, an, ct, osl, hfI, -⟩ := T.fn
  obtain ⟨ccl, cdd, vs, ccs, tf, hcda, hvs⟩ := T.cod
  obtain ⟨cl, cld, csl, hcc⟩ := T.cel
  obtain ⟨nm, q, N, bs, bm, sn, sub, ab, col, dd, k0, k1, k2, k3, k5, hC, hbm⟩ := T.cls
  have X : K.In s.heap := X0.keeps F.keep
  have I : InstAt s.heap x (excO C t0) C none := ⟨hx, rfl, rfl, trivial⟩
  refine ks_wpAt_Expr_any ?_ hin (by rfl)
  refine ks_wpAt_MethodCall (pl := pl) ?_ hev
  obtain ⟨hh, g, d, t, os⟩ := s
  refine ks_wpAt_super_base (env := ksEnv qual sc L fI (.ref cda) cc) hks hkc (by decide) rfl (X _ _ hfI) rfl ha rfl (X _ _ hcda) rfl hvs hfile htop ?_
  refine ks_loadName_global hk hks (loadGlobal_builtin (env := ksEnv qual sc L fI (.ref cda) cc) (hg.keeps F.keep) T.sp0 (hb.keeps F.keep) ((hbb _ (by decide +kernel)).trans (by first | rfl | kernel_rfl)) ⟨rfl, ?_⟩)
  refine wpAny_loadName_free hk hkc rfl ⟨_, X _ _ hcc, rfl⟩ ?_
  refine wpAny_loadName_local hk hka F.ns hm ?_
  refine ks_wpAny_isType_cls (X _ _ hC) rfl ⟨rfl, ?_⟩
  refine ks_wpAny_call_super (X _ _ hC) rfl hx rfl (fun c e => nomatch e) (looks_mroIn X T.mro) (fun h1 hso k1' => ?_)
  have X1 : K.In h1 := X.keeps k1'
  have I1 : InstAt h1 x (excO C t0) C none := ⟨k1' _ _ hx, rfl, rfl, trivial⟩
  have hcl : clsIn K C = some { name := nm, bases := bs, mro := .ref C :: bm, ns := N, qualname := q, hasDict := true, slotNames := sn, subclasses := sub, abstract := ab, collection := col, hasDel := false } := by unfold clsIn; rw [hC] <;> rfl
  have hal : alongIn K "__init__" (((Value.ref C :: bm).dropWhile (· != .ref C)).drop 1) = some (some (.builtin "ValueError.__init__")) := by
    have z := T.sup
    unfold ks_superIn at z
    rw [hcl] at z
    exact z
  refine kxs_getMethod kxs_ValueError (x := x) (C := C) (D := C) hso (looks_opaque X1 T.opq) (l₀ := Value.ref C :: bm) (fun A Q E s k q => wpAny_bind ((looks_clsIn X1 hcl) A _ E s k (wpAny_pure q))) rfl X1 hal (I1.type.andThen (looks_subIn X1 T.veC)) (ks_ne X I hcl) (by decide) ?_
  have k2 : ∀ b o, hh.get? b = some o → (h1.push (kxs_mw "ValueError.__init__" x)).get? b = some o := fun b o e => Heap.get?_push_of_some _ (k1' b o e)
  obtain ⟨oL, esL, epL, hL1, hL2⟩ := F.ns
  have F2 : Fr base L (h1.push (kxs_mw "ValueError.__init__" x)) m := ⟨⟨oL, esL, epL, k2 _ _ hL1, hL2⟩, fun b o e => k2 b o (F.keep b o e), F.above⟩
  have hu : (h1.push (kxs_mw "ValueError.__init__" x)).get? h1.objs.size = some (kxs_mw "ValueError.__init__" x) := Heap.get?_push_at rfl rfl
  have nu : h1.objs.size ≠ x := Nat.ne_of_gt (Heap.lt_size (k1' _ _ hx))
  have nL : h1.objs.size ≠ L := Nat.ne_of_gt (Heap.lt_size (k1' _ _ hL1))
  have nb : base.get? h1.objs.size = none := by
    cases e : base.get? h1.objs.size with
    | none => rfl
    | some o => exact absurd (Heap.lt_size (k1' _ _ (F.keep _ _ e))) (Nat.lt_irrefl _)
  have N2 := L2.news_at (g := base) (h := h1.push (kxs_mw "ValueError.__init__" x)) (L := L) (d := x) hxL hbx (k2 _ _ hx)
  have hmem : (h1.objs.size, kxs_mw "ValueError.__init__" x) ∈ (x, excO C t0) :: L2.rest base (h1.push (kxs_mw "ValueError.__init__" x)) L x := List.mem_cons_of_mem _ (L2.mem_rest nL nb hu nu)
  show wpAny _ _ (callWith p4 (.ref h1.objs.size) [] (backTo p4 (starEach (_ :: []) _)) []) _ _ _
  refine kxs_callWith1 N2 hmem ?_ (by rfl) (by rfl)
  refine spliced_more (e := .Constant (.str msg) 0 p3) (rest := []) ?_ rfl
  refine wpAny_Constant_str (spliced_none ⟨hu, ?_⟩)
  have ex : excO C t0 = excObj C t0 none .none := rfl
  rw [ex] at hmem N2
  refine kxs_call (s := ⟨h1.push (kxs_mw "ValueError.__init__" x), g, d, t + 1 + 1, os⟩) F2 X0 N2 PySem.F.excBase_ValueError T.qI hmem (.head (fun p hp => L2.rest_ne p hp)) (by rw [sizeLine_eq]; exact Nat.le_of_ble_eq_true rfl) (fun t' h' F3 N3 _ => ?_)
  have kk := L2.kept_of_news (fun b o e => F2.keep b o e) F3 (fun p hp => N3 p (.tail _ (.tail _ hp)))
  exact hq h' _ t' F3 (fun b o e1 e2 e3 => kk b o e1 e2 (k2 b o e3)) (N3 (x, excObj C t' none .none) (.tail _ (.head _))).1
/-- a field's row, the exception's dict not yet there -/
theorem field_new (T : ExT K mg C fI cda cc file qual ar body sc) {f : Str} {v : Value} {self : Str} {q1 q2 q3 q4 : Pos} {Q : Flow → Shared → Prop}
    (F : Fr base L s.heap m) (X0 : K.In base) (hk : sc.kind = .function) (hs : sc.names.lookup self = some .local) (hf : sc.names.lookup f = some .local) (hm : m self = some (.ref x)) (hv : m f = some v)
    (hno : findIn K (.ref C) f = some none) (hx : s.heap.get? x = some (excO C t0)) (hbx : base.get? x = none) (hxL : x ≠ L) (hd1 : (self == ("__debug__" : Str)) = false) (hd2 : (f == ("__debug__" : Str)) = false)
    (hsw : swapsWith (.Name f q3) (some (.Attribute (.Name self q1) f q2)) q4.line (ksEnv qual sc L fI (.ref cda) cc) = pure false)
    (hq : ∀ h' tk dx, Fr base L h' m → (∀ b o, b ≠ x → s.heap.get? b = some o → h'.get? b = some o) → s.heap.objs.size ≤ dx → h'.get? x = some { cls := .ref C, dict := some dx, data := .fields #[.ref t0, .none, .none, .none, .bool false, .none] } → h'.Ns1 dx (fun y => if y = f then some v else none) → dx ≠ x →
      Q .next { s with heap := h', toks := tk }) :
    wpAny (model prog w) A (exec (.Assign [.Attribute (.Name self q1) f q2] (.Name f q3) q4) (ksEnv qual sc L fI (.ref cda) cc)) Q E s := by
  obtain ⟨nm, q, N, bs, bm, sn, sub, ab, col, dd, k0, k1, k2, k3, k5, hC, hbm⟩ := T.cls
  have hcl : clsIn K C = some { name := nm, bases := bs, mro := .ref C :: bm, ns := N, qualname := q, hasDict := true, slotNames := sn, subclasses := sub, abstract := ab, collection := col, hasDel := false } := by unfold clsIn; rw [hC] <;> rfl
  have X : K.In s.heap := X0.keeps F.keep
  obtain ⟨hp, g, d, t, os⟩ := s
  refine plainObj_wpAny_Assign_Attribute (wpAny_Name (wpAny_loadName_local hk hf F.ns hv (wpAny_Name (wpAny_loadName_local hk hs F.ns hm ?_) hd1)) hd2) hsw
  refine set_plain X (ox := excO C t0) (od := none) ⟨hx, rfl, rfl, trivial⟩ T.sa ?_
  refine exc_osa X hx hcl (show refsVE (.ref C :: bm) = true from hbm) rfl hno (fun h3 tk3 dx k3' dn dne hx3 hn3 => ?_)
  obtain ⟨oL, esL, epL, hL1, hL2⟩ := F.ns
  exact hq h3 tk3 dx ⟨⟨oL, esL, epL, k3' _ _ (Ne.symm hxL) hL1, hL2⟩, fun b o e => k3' b o (fun z => by rw [z, hbx] at e; cases e) (F.keep b o e), F.above⟩ k3' dn hx3 hn3 dne
/-- a further one -/
theorem field_old (T : ExT K mg C fI cda cc file qual ar body sc) {f : Str} {v : Value} {self : Str} {q1 q2 q3 q4 : Pos} {Q : Flow → Shared → Prop} {dx : Addr} {m0 : Str → Option Value} {nl : List Str} {fv : Array Value}
    (F : Fr base L s.heap m) (X0 : K.In base) (hk : sc.kind = .function) (hs : sc.names.lookup self = some .local) (hf : sc.names.lookup f = some .local) (hm : m self = some (.ref x)) (hv : m f = some v)
    (hno : findIn K (.ref C) f = some none) (hx : s.heap.get? x = some { cls := .ref C, dict := some dx, data := .fields fv }) (hns : s.heap.Ns1 dx m0) (hw : Within m0 nl) (hz : nl.length ≤ 1000) (hbd : base.get? dx = none) (hdL : dx ≠ L) (hd1 : (self == ("__debug__" : Str)) = false) (hd2 : (f == ("__debug__" : Str)) = false)
    (hsw : swapsWith (.Name f q3) (some (.Attribute (.Name self q1) f q2)) q4.line (ksEnv qual sc L fI (.ref cda) cc) = pure false)
    (hq : ∀ h' tk, Fr base L h' m → (∀ b o, b ≠ dx → s.heap.get? b = some o → h'.get? b = some o) → h'.Ns1 dx (fun y => if y = f then some v else m0 y) → Q .next { s with heap := h', toks := tk }) :
    wpAny (model prog w) A (exec (.Assign [.Attribute (.Name self q1) f q2] (.Name f q3) q4) (ksEnv qual sc L fI (.ref cda) cc)) Q E s := by
  obtain ⟨nm, q, N, bs, bm, sn, sub, ab, col, dd, k0, k1, k2, k3, k5, hC, hbm⟩ := T.cls
  have hcl : clsIn K C = some { name := nm, bases := bs, mro := .ref C :: bm, ns := N, qualname := q, hasDict := true, slotNames := sn, subclasses := sub, abstract := ab, collection := col, hasDel := false } := by unfold clsIn; rw [hC] <;> rfl
  have X : K.In s.heap := X0.keeps F.keep
  obtain ⟨hp, g, d, t, os⟩ := s
  obtain ⟨oD, esD, epD, hoD, hdD⟩ := id hns
  refine plainObj_wpAny_Assign_Attribute (wpAny_Name (wpAny_loadName_local hk hf F.ns hv (wpAny_Name (wpAny_loadName_local hk hs F.ns hm ?_) hd1)) hd2) hsw
  refine set_plain X (ox := { cls := .ref C, dict := some dx, data := .fields fv }) (od := some oD) ⟨hx, rfl, rfl, hoD⟩ T.sa ?_
  refine OEX.osa_old X hx hns hw hz hcl (show refsVE (.ref C :: bm) = true from hbm) rfl hno (fun h3 tk3 k3' hn3 => ?_)
  obtain ⟨oL, esL, epL, hL1, hL2⟩ := F.ns
  exact hq h3 tk3 ⟨⟨oL, esL, epL, k3' _ _ (Ne.symm hdL) hL1, hL2⟩, fun b o e => k3' b o (fun z => by rw [z, hbd] at e; cases e) (F.keep b o e), F.above⟩ k3' hn3
/-- a made exception e of the class at C, its own dict d with the fields mA -/
structure Made (h h' : Heap) (e C d : Addr) (mA : Str → Option Value) : Prop where
  keep : ∀ b o, h.get? b = some o → h'.get? b = some o
  new : h.objs.size ≤ e
  obj : ∃ t1 : Addr, h'.get? e = some { cls := .ref C, dict := some d, data := .fields #[.ref t1, .none, .none, .none, .bool false, .none] }
  dbig : h.objs.size ≤ d
  dne : d ≠ e
  ns : h'.Ns1 d mA
end

/-! ### the texts of the two __init__ -/
def ar1 (f : Str) (p1 p2 : Pos) : Arguments := { posonlyargs := [], args := [{ arg := "self", annotation := none, pos := p1 }, { arg := f, annotation := none, pos := p2 }], vararg := none, kwonlyargs := [], kw_defaults := [], kwarg := none, defaults := [] }
def ar2 (f g : Str) (p1 p2 p3 : Pos) : Arguments := { posonlyargs := [], args := [{ arg := "self", annotation := none, pos := p1 }, { arg := f, annotation := none, pos := p2 }, { arg := g, annotation := none, pos := p3 }], vararg := none, kwonlyargs := [], kw_defaults := [], kwarg := none, defaults := [] }
def sc1 (f : Str) : Scope := { kind := .function, names := [(PySem.Str.ofString "self", .local), (f, .local), (PySem.Str.ofString "__class__", .free), (PySem.Str.ofString "super", .globalImplicit)], isGenerator := false, isCoroutine := false, more := [] }
def sc2 (f g : Str) : Scope := { kind := .function, names := [(PySem.Str.ofString "self", .local), (f, .local), (g, .local), (PySem.Str.ofString "__class__", .free), (PySem.Str.ofString "super", .globalImplicit)], isGenerator := false, isCoroutine := false, more := [] }
def row0 (msg : Str) (p0 p1 p2 p3 p4 p5 : Pos) : Stmt := .Expr (.Call (.Attribute (.Call (.Name "super" p0) [] [] p1) "__init__" p2) [.Constant (.str msg) 0 p3] [] p4) p5
def rowF (f : Str) (q1 q2 q3 q4 : Pos) : Stmt := .Assign [.Attribute (.Name "self" q1) f q2] (.Name f q3) q4
section
variable {prog : Program} {w : World} {A : Around} {E : Value → Shared → Prop} {s : Shared} {K : Frag} {mg mb : Str → Option Value} {C fI cda cc L x t0 : Addr} {file qual msg : Str} {base : Heap} {m : Str → Option Value} {R : Result → Shared → Prop}
  {p1 p2 p3 c0 c1 c2 c3 c4 c5 q1 q2 q3 q4 r1 r2 r3 r4 : Pos}
theorem ini1 (T : ExT K mg C fI cda cc file qual (ar1 "place" p1 p2) [row0 msg c0 c1 ⟨23, 8, 23, 24⟩ c3 ⟨23, 8, 23, 56⟩ c5, rowF "place" q1 q2 q3 q4] (sc1 "place")) {v : Value}
    (hkeep : ∀ b o, base.get? b = some o → s.heap.get? b = some o) (hsz : base.objs.size ≤ s.heap.objs.size) (X0 : K.In base) (hg : base.Ns mainGlobals mg) (hb : base.Ns builtinsNs mb) (hbb : ∀ y : Str, y ≠ "__name__" → mb y = bootBuiltins y) (hlim : base.NoLimit)
    (hfile : ((prog.main.file : Str) == file) = true) (htop : (prog.main.scope.names.lookup ("super" : Str)).isSome = false) (hno : findIn K (.ref C) "place" = some none)
    (hx : s.heap.get? x = some (excO C t0)) (hbx : base.get? x = none) (hroom : A.depth < recursionLimit)
    (hq : ∀ h' tk dx t1, (∀ b o, b ≠ x → s.heap.get? b = some o → h'.get? b = some o) → s.heap.objs.size ≤ dx → dx ≠ x → h'.get? x = some { cls := .ref C, dict := some dx, data := .fields #[.ref t1, .none, .none, .none, .bool false, .none] } →
      h'.Ns1 dx (fun y => if y = "place" then some v else none) → R (.ok (.ret .none)) { s with heap := h', toks := tk }) :
    codeAny (model prog w) A (.call (.ref fI) ⟨[.ref x, v], []⟩) R s := by
  obtain ⟨oc, od, kV, doc, pm, an, ct, osl, hfI, hcd⟩ := T.fn
  have X : K.In s.heap := X0.keeps hkeep
  refine ks_codeAny_call_defAt (fd := ksFn "__init__" qual (ar1 "place" p1 p2) [row0 msg c0 c1 ⟨23, 8, 23, 24⟩ c3 ⟨23, 8, 23, 56⟩ c5, rowF "place" q1 q2 q3 q4] (sc1 "place") .none kV doc pm an (.ref cda) ct cc) (binds := [("self", .ref x), ("place", v)]) hroom (X _ _ hfI) rfl (hlim.keeps hkeep) (codeRec_of X hcd) rfl (BindsTo.of_eq (by first | rfl | with_unfolding_all rfl | kernel_rfl)) (show ∀ z ∈ (sc1 "place").names, z.2 ≠ NameKind.cell by decide) (locs (by first | rfl | with_unfolding_all rfl | kernel_rfl)) (fun h1 hns hk1 => ?_)
  have xL : x ≠ s.heap.objs.size := Nat.ne_of_lt (Heap.lt_size hx)
  have F1 : Fr base s.heap.objs.size h1 (fun y => ([("self", Value.ref x), ("place", v)] : List (Str × Value)).reverse.lookup y) := ⟨hns, fun b o e => hk1 b o (hkeep b o e), hsz⟩
  show _root_.PySem.wpAt _ (A.deeper (ksEnv qual (sc1 "place") s.heap.objs.size fI (.ref cda) cc)) (.func _ (ksEnv qual (sc1 "place") s.heap.objs.size fI (.ref cda) cc)) (execs [row0 msg c0 c1 ⟨23, 8, 23, 24⟩ c3 ⟨23, 8, 23, 56⟩ c5, rowF "place" q1 q2 q3 q4] (ksEnv qual (sc1 "place") s.heap.objs.size fI (.ref cda) cc)) _ _ _
  refine ks_wpAt_execs_cons ?_
  refine super_row (x := x) (t0 := t0) (a0 := { arg := "self", annotation := none, pos := p1 }) T F1 X0 hg hb hbb hfile htop rfl rfl (by decide) (by decide) (show (sc1 "place").names.lookup ("self" : Str) = some .local by decide) (by first | rfl | with_unfolding_all rfl | kernel_rfl) (hk1 _ _ hx) hbx xL rfl (by rfl) (fun h2 tk2 t2 F2 k2 hx2 => ?_)
  refine wpAt_of_wpAny ?_
  refine wpAny_execs_cons ?_
  refine field_new (x := x) (t0 := t2) (v := v) T F2 X0 rfl (by decide) (by decide) (by first | rfl | with_unfolding_all rfl | kernel_rfl) (by first | rfl | with_unfolding_all rfl | kernel_rfl) hno hx2 hbx xL (by decide) (by decide) (by rfl) (fun h3 tk3 dx F3 k3 hdx hx3 hn3 hne => ?_)
  refine wpAny_execs_nil ?_
  have hL2 : s.heap.objs.size < h2.objs.size := F2.ns.lt
  exact hq h3 tk3 dx t2 (fun b o e1 e2 => k3 b o e1 (k2 b o (Nat.ne_of_lt (Heap.lt_size e2)) e1 (hk1 b o e2))) (Nat.le_of_lt (Nat.lt_of_lt_of_le hL2 hdx)) hne hx3 hn3
theorem ini2 (T : ExT K mg C fI cda cc file qual (ar2 "count" "limit" p1 p2 p3) [row0 msg c0 c1 ⟨17, 8, 17, 24⟩ c3 ⟨17, 8, 17, 36⟩ c5, rowF "count" q1 q2 q3 q4, rowF "limit" r1 r2 r3 r4] (sc2 "count" "limit")) {v u : Value}
    (hkeep : ∀ b o, base.get? b = some o → s.heap.get? b = some o) (hsz : base.objs.size ≤ s.heap.objs.size) (X0 : K.In base) (hg : base.Ns mainGlobals mg) (hb : base.Ns builtinsNs mb) (hbb : ∀ y : Str, y ≠ "__name__" → mb y = bootBuiltins y) (hlim : base.NoLimit)
    (hfile : ((prog.main.file : Str) == file) = true) (htop : (prog.main.scope.names.lookup ("super" : Str)).isSome = false) (hno : findIn K (.ref C) "count" = some none) (hno2 : findIn K (.ref C) "limit" = some none)
    (hx : s.heap.get? x = some (excO C t0)) (hbx : base.get? x = none) (hroom : A.depth < recursionLimit)
    (hq : ∀ h' tk dx t1, (∀ b o, b ≠ x → s.heap.get? b = some o → h'.get? b = some o) → s.heap.objs.size ≤ dx → dx ≠ x → h'.get? x = some { cls := .ref C, dict := some dx, data := .fields #[.ref t1, .none, .none, .none, .bool false, .none] } →
      h'.Ns1 dx (fun y => if y = "limit" then some u else if y = "count" then some v else none) → R (.ok (.ret .none)) { s with heap := h', toks := tk }) :
    codeAny (model prog w) A (.call (.ref fI) ⟨[.ref x, v, u], []⟩) R s := by
  obtain ⟨oc, od, kV, doc, pm, an, ct, osl, hfI, hcd⟩ := T.fn
  have X : K.In s.heap := X0.keeps hkeep
  refine ks_codeAny_call_defAt (fd := ksFn "__init__" qual (ar2 "count" "limit" p1 p2 p3) [row0 msg c0 c1 ⟨17, 8, 17, 24⟩ c3 ⟨17, 8, 17, 36⟩ c5, rowF "count" q1 q2 q3 q4, rowF "limit" r1 r2 r3 r4] (sc2 "count" "limit") .none kV doc pm an (.ref cda) ct cc) (binds := [("self", .ref x), ("count", v), ("limit", u)]) hroom (X _ _ hfI) rfl (hlim.keeps hkeep) (codeRec_of X hcd) rfl (BindsTo.of_eq (by first | rfl | with_unfolding_all rfl | kernel_rfl)) (show ∀ z ∈ (sc2 "count" "limit").names, z.2 ≠ NameKind.cell by decide) (locs (by first | rfl | with_unfolding_all rfl | kernel_rfl)) (fun h1 hns hk1 => ?_)
  have xL : x ≠ s.heap.objs.size := Nat.ne_of_lt (Heap.lt_size hx)
  have F1 : Fr base s.heap.objs.size h1 (fun y => ([("self", Value.ref x), ("count", v), ("limit", u)] : List (Str × Value)).reverse.lookup y) := ⟨hns, fun b o e => hk1 b o (hkeep b o e), hsz⟩
  show _root_.PySem.wpAt _ (A.deeper (ksEnv qual (sc2 "count" "limit") s.heap.objs.size fI (.ref cda) cc)) (.func _ (ksEnv qual (sc2 "count" "limit") s.heap.objs.size fI (.ref cda) cc)) (execs [row0 msg c0 c1 ⟨17, 8, 17, 24⟩ c3 ⟨17, 8, 17, 36⟩ c5, rowF "count" q1 q2 q3 q4, rowF "limit" r1 r2 r3 r4] (ksEnv qual (sc2 "count" "limit") s.heap.objs.size fI (.ref cda) cc)) _ _ _
  refine ks_wpAt_execs_cons ?_
  refine super_row (x := x) (t0 := t0) (a0 := { arg := "self", annotation := none, pos := p1 }) T F1 X0 hg hb hbb hfile htop rfl rfl (by decide) (by decide) (show (sc2 "count" "limit").names.lookup ("self" : Str) = some .local by decide) (by first | rfl | with_unfolding_all rfl | kernel_rfl) (hk1 _ _ hx) hbx xL rfl (by rfl) (fun h2 tk2 t2 F2 k2 hx2 => ?_)
  refine wpAt_of_wpAny ?_
  refine wpAny_execs_cons ?_
  refine field_new (x := x) (t0 := t2) (v := v) T F2 X0 rfl (by decide) (by decide) (by first | rfl | with_unfolding_all rfl | kernel_rfl) (by first | rfl | with_unfolding_all rfl | kernel_rfl) hno hx2 hbx xL (by decide) (by decide) (by rfl) (fun h3 tk3 dx F3 k3 hdx hx3 hn3 hne => ?_)
  have hL2 : s.heap.objs.size < h2.objs.size := F2.ns.lt
  have hdxs : s.heap.objs.size < dx := Nat.lt_of_lt_of_le hL2 hdx
  refine wpAny_execs_cons ?_
  refine field_old (x := x) (dx := dx) (v := u) (nl := ["count"]) T F3 X0 rfl (by decide) (by decide) (by first | rfl | with_unfolding_all rfl | kernel_rfl) (by first | rfl | with_unfolding_all rfl | kernel_rfl) hno2 hx3 hn3 (fun y hy => ?_) (by decide) ?_ (Nat.ne_of_gt hdxs) (by decide) (by decide) (by rfl) (fun h4 tk4 F4 k4 hn4 => ?_)
  · by_cases e : y = "count"
    · rw [e]; exact List.mem_singleton.mpr rfl
    · exact absurd (if_neg e) hy
  · exact Heap.get?_none_of_le (Nat.le_trans hsz (Nat.le_of_lt hdxs))
  refine wpAny_execs_nil ?_
  exact hq h4 tk4 dx t2 (fun b o e1 e2 => k4 b o (Nat.ne_of_lt (Nat.lt_trans (Heap.lt_size e2) hdxs)) (k3 b o e1 (k2 b o (Nat.ne_of_lt (Heap.lt_size e2)) e1 (hk1 b o e2)))) (Nat.le_of_lt hdxs) hne (k4 _ _ (Ne.symm hne) hx3) hn4
theorem made1 (T : ExT K mg C fI cda cc file qual (ar1 "place" p1 p2) [row0 msg c0 c1 ⟨23, 8, 23, 24⟩ c3 ⟨23, 8, 23, 56⟩ c5, rowF "place" q1 q2 q3 q4] (sc1 "place")) {v : Value}
    (hkeep : ∀ b o, base.get? b = some o → s.heap.get? b = some o) (hsz : base.objs.size ≤ s.heap.objs.size) (X0 : K.In base) (hg : base.Ns mainGlobals mg) (hb : base.Ns builtinsNs mb) (hbb : ∀ y : Str, y ≠ "__name__" → mb y = bootBuiltins y) (hlim : base.NoLimit)
    (hfile : ((prog.main.file : Str) == file) = true) (htop : (prog.main.scope.names.lookup ("super" : Str)).isSome = false) (hno : findIn K (.ref C) "place" = some none) (hroom : A.depth + 1 < recursionLimit)
    (hq : ∀ h' tk e d, Made s.heap h' e C d (fun y => if y = "place" then some v else none) → R (.ok (.ret (.ref e))) { s with heap := h', toks := tk }) :
    codeAny (model prog w) A (.call (.ref C) ⟨[v], []⟩) R s := by
  obtain ⟨nm, q, N, bs, bm, sn, sub, ab, col, dd, k0, k1, k2, k3, k5, hC, hbm⟩ := T.cls
  have X : K.In s.heap := X0.keeps hkeep
  obtain ⟨hp, g, dr, tk, os⟩ := s
  have kp : ∀ b o, hp.get? b = some o → ((hp.push (kdv_tup [v])).push (excO C hp.objs.size)).get? b = some o := fun b o e => Heap.get?_push_of_some _ (Heap.get?_push_of_some _ e)
  have hget : ((hp.push (kdv_tup [v])).push (excO C hp.objs.size)).get? (hp.objs.size + 1) = some (excO C hp.objs.size) := by heap_get
  have hz : hp.objs.size ≤ ((hp.push (kdv_tup [v])).push (excO C hp.objs.size)).objs.size := by rw [Heap.size_push, Heap.size_push]; omega
  refine call_own PySem.F.excBase_ValueError (fun Y => refsVE_contains Y bm hbm) (X _ _ hC) (looks_findIn X T.iC) (fun self => bind_fn X self T.tC) (by rw [sizeLine_eq]; exact Nat.le_of_ble_eq_true rfl) ?_
  refine ini1 (s := ⟨(hp.push (kdv_tup [v])).push (excO C hp.objs.size), g, dr, tk, os⟩) T (fun b o e => kp b o (hkeep b o e)) (Nat.le_trans hsz hz) X0 hg hb hbb hlim hfile htop hno hget (Heap.get?_none_of_le (Nat.le_trans hsz (Nat.le_succ _))) ?_ (fun h' tk' dx t1 k' dn dne hx hns => ?_)
  · show A.depth + 1 < recursionLimit
    exact hroom
  · exact ⟨rfl, hq h' tk' (hp.objs.size + 1) dx ⟨fun b o e => k' b o (Nat.ne_of_lt (Nat.lt_succ_of_lt (Heap.lt_size e))) (kp b o e), Nat.le_succ _, ⟨t1, hx⟩, Nat.le_trans hz dn, dne, hns⟩⟩
theorem made2 (T : ExT K mg C fI cda cc file qual (ar2 "count" "limit" p1 p2 p3) [row0 msg c0 c1 ⟨17, 8, 17, 24⟩ c3 ⟨17, 8, 17, 36⟩ c5, rowF "count" q1 q2 q3 q4, rowF "limit" r1 r2 r3 r4] (sc2 "count" "limit")) {v u : Value}
    (hkeep : ∀ b o, base.get? b = some o → s.heap.get? b = some o) (hsz : base.objs.size ≤ s.heap.objs.size) (X0 : K.In base) (hg : base.Ns mainGlobals mg) (hb : base.Ns builtinsNs mb) (hbb : ∀ y : Str, y ≠ "__name__" → mb y = bootBuiltins y) (hlim : base.NoLimit)
    (hfile : ((prog.main.file : Str) == file) = true) (htop : (prog.main.scope.names.lookup ("super" : Str)).isSome = false) (hno : findIn K (.ref C) "count" = some none) (hno2 : findIn K (.ref C) "limit" = some none) (hroom : A.depth + 1 < recursionLimit)
    (hq : ∀ h' tk e d, Made s.heap h' e C d (fun y => if y = "limit" then some u else if y = "count" then some v else none) → R (.ok (.ret (.ref e))) { s with heap := h', toks := tk }) :
    codeAny (model prog w) A (.call (.ref C) ⟨[v, u], []⟩) R s := by
  obtain ⟨nm, q, N, bs, bm, sn, sub, ab, col, dd, k0, k1, k2, k3, k5, hC, hbm⟩ := T.cls
  have X : K.In s.heap := X0.keeps hkeep
  obtain ⟨hp, g, dr, tk, os⟩ := s
  have kp : ∀ b o, hp.get? b = some o → ((hp.push (kdv_tup [v, u])).push (excO C hp.objs.size)).get? b = some o := fun b o e => Heap.get?_push_of_some _ (Heap.get?_push_of_some _ e)
  have hget : ((hp.push (kdv_tup [v, u])).push (excO C hp.objs.size)).get? (hp.objs.size + 1) = some (excO C hp.objs.size) := by heap_get
  have hz : hp.objs.size ≤ ((hp.push (kdv_tup [v, u])).push (excO C hp.objs.size)).objs.size := by rw [Heap.size_push, Heap.size_push]; omega
  refine call_own PySem.F.excBase_ValueError (fun Y => refsVE_contains Y bm hbm) (X _ _ hC) (looks_findIn X T.iC) (fun self => bind_fn X self T.tC) (by rw [sizeLine_eq]; exact Nat.le_of_ble_eq_true rfl) ?_
  refine ini2 (s := ⟨(hp.push (kdv_tup [v, u])).push (excO C hp.objs.size), g, dr, tk, os⟩) T (fun b o e => kp b o (hkeep b o e)) (Nat.le_trans hsz hz) X0 hg hb hbb hlim hfile htop hno hno2 hget (Heap.get?_none_of_le (Nat.le_trans hsz (Nat.le_succ _))) ?_ (fun h' tk' dx t1 k' dn dne hx hns => ?_)
  · show A.depth + 1 < recursionLimit
    exact hroom
  · exact ⟨rfl, hq h' tk' (hp.objs.size + 1) dx ⟨fun b o e => k' b o (Nat.ne_of_lt (Nat.lt_succ_of_lt (Heap.lt_size e))) (kp b o e), Nat.le_succ _, ⟨t1, hx⟩, Nat.le_trans hz dn, dne, hns⟩⟩
end
end HjX
end PySem

namespace L2
open PySem PySem.Spec PyProof.Rows
/-- a made exception, over the abstract heap -/
theorem mk_made {X : Cx} {pins : List (Addr × Obj)} {σ : St} {H1 : Hp} {Q : XK} {hp h' : Heap} {g : Array GenState} {dr : Drawn} {tk tk' : Nat} {os : OsState} {e C d : Addr} {mA : Str → Option Value} {fs : List (Str × V)}
    (I1 : Inv X pins σ H1 ⟨hp, g, dr, tk, os⟩) (M : PySem.HjX.Made hp h' e C d mA) (rel : ∀ f, RelO (fs.lookup f) (mA f)) (exC : PySem.W.subIn X.K (.ref C) (.type "BaseException") = some true) (tyC : PySem.W.typeIn X.K (.ref C) = some (.type "type"))
    (q : Q (.ref C) (some d) (upd H1 d (.xd fs))) : MkP X pins σ Q (.ref e) ⟨h', g, dr, tk', os⟩ := by
  obtain ⟨t1, hoe⟩ := M.obj
  obtain ⟨G', g1, g2⟩ := restrict h' fun b => decide (b ≠ e)
  have gk : ∀ b, b ≠ e → G'.get? b = h'.get? b := fun b hb => g1 b (decide_eq_true hb)
  have ge : G'.get? e = none := g2 e (by simp)
  have old : ∀ b o, hp.get? b = some o → G'.get? b = some o := fun b o z => (gk b (Nat.ne_of_lt (Nat.lt_of_lt_of_le (Heap.lt_size z) M.new))).trans (M.keep b o z)
  have ob : ObjOk X.prog X.w (upd H1 d (.xd fs)) G' d (.xd fs) := ⟨_, M.ns.at (fun o z => (gk d M.dne).trans z), rel⟩
  have J : Inv X pins σ (upd H1 d (.xd fs)) ⟨G', g, dr, tk', os⟩ := I1.laid (t' := tk') old M.dbig ob
  refine ⟨e, _, _, ⟨G', g, dr, tk', os⟩, _, .ref C, some d, rfl, J, fun b o z => ?_, ge, hoe, ⟨rfl, rfl⟩, rfl, rfl, ?_, rfl, I1.bare, raises_own exC tyC, q⟩
  · by_cases hb : b = e
    · have z' : G'.get? b = some o := z
      rw [hb, ge] at z'; cases z'
    · exact (gk b hb).symm.trans z
  · rw [upd_ne (Ne.symm M.dne)]
    exact I1.hok.fresh M.new
section
variable {X : Cx} {C fI cda cc : Addr} {file qual msg : Str} {p1 p2 p3 c0 c1 c2 c3 c4 c5 q1 q2 q3 q4 r1 r2 r3 r4 : Pos}
/-- BadText(e) -/
def tMkB (C : Addr) (ta : TA) : St → Hp → XK → Prop := fun σ H Q => ta σ H fun vs H1 => ∃ v, vs = [v] ∧ ∀ d, H1 d = none → Q (.ref C) (some d) (upd H1 d (.xd [(("place" : Str), v)]))
/-- TooMany(e, g) -/
def tMkM (C : Addr) (ta : TA) : St → Hp → XK → Prop := fun σ H Q => ta σ H fun vs H1 => ∃ v u, vs = [v, u] ∧ ∀ d, H1 d = none → Q (.ref C) (some d) (upd H1 d (.xd [(("limit" : Str), u), (("count" : Str), v)]))
theorem rel1 {v : V} {v' : Value} (r : RelV v v') (f : Str) : RelO (List.lookup f [(("place" : Str), v)]) (if f = "place" then some v' else none) := by
  by_cases hw : f = "place"
  · subst hw
    rw [if_pos rfl]
    have z : List.lookup ("place" : Str) [(("place" : Str), v)] = some v := by simp [List.lookup]
    rw [z]
    exact r
  · rw [if_neg hw]
    have qw : (f == ("place" : Str)) = false := by simpa using hw
    have z : List.lookup f [(("place" : Str), v)] = none := by simp [List.lookup, qw]
    rw [z]
    trivial
theorem rel2 {v u : V} {v' u' : Value} (r : RelV v v') (r2 : RelV u u') (f : Str) : RelO (List.lookup f [(("limit" : Str), u), (("count" : Str), v)]) (if f = "limit" then some u' else if f = "count" then some v' else none) := by
  by_cases hw : f = "limit"
  · subst hw
    rw [if_pos rfl]
    have z : List.lookup ("limit" : Str) [(("limit" : Str), u), (("count" : Str), v)] = some u := by simp [List.lookup]
    rw [z]
    exact r2
  · rw [if_neg hw]
    have qw : (f == ("limit" : Str)) = false := by simpa using hw
    by_cases hc : f = "count"
    · subst hc
      rw [if_pos rfl]
      have z : List.lookup ("count" : Str) [(("limit" : Str), u), (("count" : Str), v)] = some v := by simp [List.lookup, qw]
      rw [z]
      exact r
    · rw [if_neg hc]
      have qc : (f == ("count" : Str)) = false := by simpa using hc
      have z : List.lookup f [(("limit" : Str), u), (("count" : Str), v)] = none := by simp [List.lookup, qw, qc]
      rw [z]
      trivial
theorem pmk_bt {a : Expr} {ta : TA} {p pos : Pos} {k : Nat} {x : Str} (T : PySem.HjX.ExT X.K X.mg C fI cda cc file qual (PySem.HjX.ar1 "place" p1 p2) [PySem.HjX.row0 msg c0 c1 ⟨23, 8, 23, 24⟩ c3 ⟨23, 8, 23, 56⟩ c5, PySem.HjX.rowF "place" q1 q2 q3 q4] (PySem.HjX.sc1 "place"))
    (hm : X.mg x = some (.ref C)) (hfile : ((X.prog.main.file : Str) == file) = true) (htop : (X.prog.main.scope.names.lookup ("super" : Str)).isSome = false) (hno : PySem.W.findIn X.K (.ref C) "place" = some none) (hr : Room k X.A) (ha : PA X [a] ta) (hg : Gl X x) (hdb : (x == ("__debug__" : Str)) = false := by decide)
    (he : starEach (a :: []) X.env = (false, eval a X.env) :: starEach [] X.env := by rfl) (hpl : (backTo pos (starEach [] X.env)).any (·.1) = false := by rfl) :
    PMk X (.Call (.Name x p) [a] [] pos) (tMkB C ta) := by
  intro pins s σ H Q I h
  refine wpAny_Call_Name_kw (ld_glob I hg hm ?_ hdb)
  refine PySem.W.callWith_K (h₀ := X.base) I.ok.mod.kin T.kC (thn (ha.run pos pins s σ H _ I h) fun us s1 hh => ?_) he hpl
  obtain ⟨vs, H1, I1, r1, v, ev, q1⟩ := hh
  subst ev
  refine ⟨I1.kIn, ?_⟩
  cases r1 with
  | cons rv rn =>
    rename_i v' us'
    cases rn
    show wpAny _ _ (call (.ref C) [v']) _ _ _
    obtain ⟨hp, g, dr, tk, os⟩ := s1
    obtain ⟨mb, hb1, hb2⟩ := I1.ok.mod.blt
    refine wpAny_call (PySem.HjX.made1 T I1.bk (Nat.le_trans I1.ok.bsz I1.sz) I1.ok.mod.kin I1.ok.mod.glob hb1 hb2 I1.ok.mod.nolimit hfile htop hno (by have := hr.dp; omega) fun h' tk' e d M => ?_)
    exact mk_made I1 M (rel1 rv) T.exC T.tyC (q1 d (I1.hok.fresh M.dbig))
theorem pmk_tm {a b : Expr} {ta : TA} {p pos : Pos} {k : Nat} {x : Str} (T : PySem.HjX.ExT X.K X.mg C fI cda cc file qual (PySem.HjX.ar2 "count" "limit" p1 p2 p3) [PySem.HjX.row0 msg c0 c1 ⟨17, 8, 17, 24⟩ c3 ⟨17, 8, 17, 36⟩ c5, PySem.HjX.rowF "count" q1 q2 q3 q4, PySem.HjX.rowF "limit" r1 r2 r3 r4] (PySem.HjX.sc2 "count" "limit"))
    (hm : X.mg x = some (.ref C)) (hfile : ((X.prog.main.file : Str) == file) = true) (htop : (X.prog.main.scope.names.lookup ("super" : Str)).isSome = false) (hno : PySem.W.findIn X.K (.ref C) "count" = some none) (hno2 : PySem.W.findIn X.K (.ref C) "limit" = some none) (hr : Room k X.A) (ha : PA X [a, b] ta) (hg : Gl X x) (hdb : (x == ("__debug__" : Str)) = false := by decide)
    (he : starEach (a :: [b]) X.env = (false, eval a X.env) :: starEach [b] X.env := by rfl) (hpl : (backTo pos (starEach [b] X.env)).any (·.1) = false := by rfl) :
    PMk X (.Call (.Name x p) [a, b] [] pos) (tMkM C ta) := by
  intro pins s σ H Q I h
  refine wpAny_Call_Name_kw (ld_glob I hg hm ?_ hdb)
  refine PySem.W.callWith_K (h₀ := X.base) I.ok.mod.kin T.kC (thn (ha.run pos pins s σ H _ I h) fun us s1 hh => ?_) he hpl
  obtain ⟨vs, H1, I1, r1, v, u, ev, q1⟩ := hh
  subst ev
  refine ⟨I1.kIn, ?_⟩
  cases r1 with
  | cons rv rn =>
    rename_i v' us'
    cases rn with
    | cons ru rn =>
      rename_i u' us'
      cases rn
      show wpAny _ _ (call (.ref C) [v', u']) _ _ _
      obtain ⟨hp, g, dr, tk, os⟩ := s1
      obtain ⟨mb, hb1, hb2⟩ := I1.ok.mod.blt
      refine wpAny_call (PySem.HjX.made2 T I1.bk (Nat.le_trans I1.ok.bsz I1.sz) I1.ok.mod.kin I1.ok.mod.glob hb1 hb2 I1.ok.mod.nolimit hfile htop hno hno2 (by have := hr.dp; omega) fun h' tk' e d M => ?_)
      exact mk_made I1 M (rel2 rv ru) T.exC T.tyC (q1 d (I1.hok.fresh M.dbig))
end
end L2
end
section
set_option Elab.async false
set_option linter.all false
set_option maxRecDepth 100000
set_option maxHeartbeats 4000000
/-! a caught error with a dict of its own: isinstance, fields; a def that is called with it in the suite -/
namespace PySem
namespace HjY
open PySem.W PySem.Calls PyProof.Rows L2
section
variable {K : Frag} {x D : Addr} {ox oD : Obj}
theorem its_class (C : ExcC K D) {prog : Program} {w : World} {A : Around} {E : Value → Shared → Prop} {s : Shared} {Q : Option Value → Shared → Prop} (X : K.In s.heap) (I : InstAt s.heap x ox D (some oD)) (hq : Q (some (.ref D)) { s with toks := s.toks + 1 }) :
    wpAny (model prog w) A (getAttr? (.ref x) "__class__") Q E s := by
  have f0 : findObj K D (some oD) "__class__" = some (.bind (.builtin "getset_descriptor.__get__") (.builtin "object.__class__")) := findObj_data (by obtain ⟨cd, hc, _⟩ := any_some C.hd; rw [hc]; rfl) C.ha C.hn C.ht
  obtain ⟨hp, g, d, t, os⟩ := s
  have a0 := I.type (M := model prog w); have a1 := looks_findIn (M := model prog w) X C.hg
  have a2 := looks_findIn (M := model prog w) X C.hk; have a3 := looks_find (M := model prog w) X I f0
  have u1 : Looks (model prog w) hp (isInstance (.ref x) (.type "BaseException")) true := a0.andThen (looks_subIn X C.hs)
  have b0 : (false && onTheHeap (Value.builtin "BaseException.__getattribute__")) = false := by rfl
  have b2 : (Value.builtin "BaseException.__getattribute__" == Value.builtin "object.__getattribute__") = false := by decide +kernel
  have b1 : (onTheHeap (Value.ref D) && Value.builtin "BaseException.__getattribute__" == Value.builtin "object.__getattribute__") = false := by rw [b2]; rfl
  unfold getAttr? getAttrBy? getAttrBy; refine wpAny_bind (wpAny_mkText (wpAny_bind (wpAny_attempt (wpAny_holding (wpAny_bind (a0.at (wpAny_bind (a1.at ?_))))))))
  show wpAny _ _ (if (onTheHeap (Value.ref D) && Value.builtin "BaseException.__getattribute__" == Value.builtin "object.__getattribute__") = true then _ else _) _ _ _
  rw [b1, if_neg Bool.false_ne_true]; unfold getAttrByItsOwn hookBefore
  refine wpAny_bind ?_; rw [if_pos (show onTheHeap (Value.ref D) = true from rfl)]
  refine a2.at ?_; refine wpAny_bind (wpAny_attempt (wpAny_holding ?_))
  unfold callGetattribute; rw [b0, if_neg Bool.false_ne_true]
  unfold boundAndCalled; rw [PySem.F.excAttr_ValueError.ga.bind (.ref x)]
  refine wpAny_bind (wpAny_pure ?_); show wpAny _ _ (call (.builtin "BaseException.__getattribute__") [.ref x, .str "__class__" t]) _ _ _
  refine wpAny_call (codeAny_call_builtin PySem.F.excAttr_ValueError.ga.plain PySem.F.entry_bexc_ga (@check_slot (model prog w) _ _ ⟨hp, g, d, t + 1, os⟩ "BaseException.__getattribute__" "BaseException" "__getattribute__" (.ref x) [.str "__class__" t] [] _ (by decide +kernel) (by decide +kernel) u1 (PySem.F.args_bexc_ga (.ref x) (.str "__class__" t)) ?_))
  unfold Builtin.«object.__getattribute__»; refine wpAny_bind (wpAny_of_eq (a := ((Value.ref x : Value), [Value.str "__class__" t])) (by first | rfl | (simp only [slotArgs]; rfl)) ?_)
  refine wpAny_bind (wpAny_pure (wpAny_bind (a0.at (wpAny_bind (a3.at ?_))))); show wpAny _ _ (holding [Value.builtin "object.__class__"] (call (.builtin "getset_descriptor.__get__") [.builtin "object.__class__", .ref x, .ref D]) >>= ret) _ _ _
  refine wpAny_bind (wpAny_holding (wpAny_call (class_get (s := ⟨hp, g, d, t + 1, os⟩) (ox := ox) (od := some oD) X I C.hm ?_)))
  refine wpAny_pure ?_; show wpAny _ _ (handedOut (.ref D)) _ _ _
  rw [handedOut_of (v := .ref D) rfl]
  first
    | exact wpAny_pure (wpAny_pure hq)
    | exact wpAny_pure hq
    | exact wpAny_pure (wpAny_bind (wpAny_pure (wpAny_pure hq)))
theorem kit_exc (C : ExcC K D) : KitX K (.ref x) (.ref D) (fun h => ∃ oD', InstAt h x ox D (some oD')) := by
  refine ⟨fun _ _ _ ⟨_, I⟩ => I.type, fun _ _ X _ => ?_, fun h tp dd its n sl X htp => ?_, fun X ⟨_, I⟩ k => its_class C X I k⟩
  · obtain ⟨cd, hc, _⟩ := any_some C.hd
    unfold clsIn at hc; split at hc
    · rename_i c' d' cd' sl' ho
      intro A' Q' E' s' k q
      unfold isType loadHead; exact wpAny_bind (wpAny_loadPart (k _ _ (X _ _ ho)) (wpAny_pure q))
    · cases hc
  · obtain ⟨cd, hc, _⟩ := any_some C.hd
    refine Bool.eq_false_iff.mpr fun q => ?_
    have e : D = tp := Value.ref.inj (beq_iff_eq.mp q)
    subst e
    unfold clsIn at hc; split at hc
    · rename_i c' d' cd' sl' ho
      have z := (X _ _ ho).symm.trans htp
      cases z
    · cases hc
end
end HjY
end PySem

namespace L2
open PySem PySem.Spec PyProof.Rows
/-! ### in a body that bears the caught error -/
section
variable {X : Cx} {p : Addr × Obj} {D dd : Addr} {fs : List (Str × V)}
/-- the caught error at p.1: its class, its own dict -/
structure Caught (p : Addr × Obj) (D dd : Addr) : Prop where
  cls : p.2.cls = .ref D
  dict : p.2.dict = some dd
  data : ∃ vs, p.2.data = .fields vs
theorem Caught.inst {pins : List (Addr × Obj)} {σ : St} {H : Hp} {s : Shared} (c : Caught p D dd) (hp : p ∈ X.pn) (I : Inv X pins σ H s) (ea : H dd = some (.xd fs)) : ∃ (od : Obj) (mA : Str → Option Value), PySem.W.InstAt s.heap p.1 p.2 D (some od) ∧ (∀ n, PySem.W.lookIn n od = some (mA n)) ∧ ∀ f, RelO (fs.lookup f) (mA f) := by
  obtain ⟨ha, _⟩ := I.pin p (List.mem_append_left _ hp)
  obtain ⟨vs, hv⟩ := c.data
  have hx : ObjOk X.prog X.w H s.heap dd (.xd fs) := I.hok dd _ ea
  obtain ⟨mA, hns, hr⟩ := hx
  obtain ⟨od, ho, hl⟩ := lookIn_ns hns
  exact ⟨od, mA, ⟨ha, c.cls, by unfold PySem.W.notCls; rw [hv] <;> rfl, by rw [c.dict]; exact ho⟩, hl, hr⟩
/-- isinstance(e, c) -/
def rIsX (K : PySem.W.Frag) (D dd a : Addr) (fs : List (Str × V)) : List V → Hp → VK → Prop := fun xs H Q => ∃ (c : V) (cv : Value) (b : Bool), xs = [.ref a, c] ∧ H dd = some (.xd fs) ∧ (∀ u, RelV c u → u = cv) ∧ PySem.W.kitOne K (.ref D) cv = some b ∧ Q (.bl b) H
theorem call_isX (C : ExcC X.K D) (c : Caught p D dd) (hp : p ∈ X.pn) : CallR X (.builtin "isinstance") (rIsX X.K D dd p.1 fs) := by
  intro pins s σ H xs us Q I r h
  obtain ⟨cl, cv, b, rfl, ea, hcv, e, q⟩ := h
  cases r with
  | cons rx rr =>
    cases rr with
    | cons rt rr =>
      cases rr
      cases rx
      have ec := hcv _ rt
      subst ec
      obtain ⟨od, mA, J, -, -⟩ := c.inst hp I ea
      exact PySem.W.kia_one (PySem.HjY.kit_exc C) I.kIn ⟨od, J⟩ e (fun z => nomatch z) fun tk => ⟨.bl b, H, I.kept (t' := tk) fun _ _ z => z, rfl, q⟩
/-- e.n -/
def tXg (a dd : Addr) (fs : List (Str × V)) (f : Str) (te : TE) : TE := fun σ H Q => te σ H fun x H1 => x = .ref a ∧ H1 dd = some (.xd fs) ∧ ∃ v, fs.lookup f = some v ∧ Q v H1
theorem pe_xg {e : Expr} {te : TE} {pos : Pos} {n : Str} (T : XfC X.K D) (c : Caught p D dd) (hp : p ∈ X.pn) (hno : PySem.W.findIn X.K (.ref D) n = some none) (he : PE X e te) (hb : attributeBase e n X.env (eval e X.env) = eval e X.env := by rfl) :
    PE X (.Attribute e n pos) (tXg p.1 dd fs n te) := by
  refine ⟨fun pins s σ H Q I h => ?_⟩
  refine attr_of hb (thn (he.run pins s σ H _ I h) fun u s1 hh => ?_)
  obtain ⟨x, H1, I1, rx, ex, ea, v, l, q⟩ := hh
  subst ex
  obtain rfl : u = Value.ref p.1 := rx
  obtain ⟨od, mA, J, hl, hr⟩ := c.inst hp I1 ea
  obtain ⟨u, hu, ru⟩ := RelO.some_of (v := v) (o := mA n) (by rw [← l]; exact hr n)
  exact HandSPX.exc_get I1.kIn J T.ga T.gg T.exC (PySem.W.findObj_own T.hdC hno rfl (by rw [hl, hu])) (handed_of ru) ⟨v, H1, I1.tok _, ru, q⟩
end

/-! ### a def that is called in the suite -/
structure FnE (P : Program) (w : World) (K : PySem.W.Frag) (mg : Str → Option Value) (base : Heap) (CX : CXT) (k : Nat) (f : Addr) (fd : FuncData) (ps : List Str) (sp : Addr × Obj → Sp) : Prop where
  len : ∀ p vs H Q E, sp p vs H Q E → vs.length = ps.length
  run : ∀ (A : Around) (outer : List Env) (s : Shared) (H : Hp) (args : Args) (us : List Value) (vs : List V) (Q : VK) (E : XK) (p : Addr × Obj), L2H.RoomH k A → L2H.PinOk outer H s p → Env0 P w K mg base A outer s H → BindsTo s fd args (ps.zip us) → Vals vs us → sp p vs H Q E →
    codeAny (model P w) A (.call (.ref f) args) (CR CX outer P w H s Q E) s
abbrev cxE := @L2H.cxH
theorem fn_ofE {CX : CXT} {P : Program} {w : World} {K : PySem.W.Frag} {mg : Str → Option Value} {base : Heap} {k : Nat} {f : Addr} {name qual : Str} {params : Arguments} {body : List Stmt} {scope : Scope} {dV kV doc pm cdv ct oc : Value} {an od : Option Addr}
    {osl : Array (Option Value)} {N ps : List Str} {sp : Addr × Obj → Sp} (lk : K.lookup f = some ⟨oc, od, .func (PySem.W.fnOf name qual params body scope dV kV doc pm an cdv ct), osl⟩) (hcd : PySem.W.codeIn K cdv qual = true) (S : FnScope N ps scope)
    (len : ∀ p vs H Q E, sp p vs H Q E → vs.length = ps.length)
    (hbody : ∀ (A : Around) (outer : List Env) (s : Shared) (H : Hp) (vs : List V) (Q : VK) (E : XK) (p : Addr × Obj), L2H.RoomH k (A.deeper (envOfC qual scope s.heap.objs.size f cdv)) → sp p vs H Q E →
      ∃ t, PSs (L2H.cxH CX P w K mg base N qual scope f cdv A outer s H E p) body t ∧ t { nx := fun _ H' => Q .non H', rt := Q } (L2.start N vs) H) :
    FnE P w K mg base CX (k + 1) f (PySem.W.fnOf name qual params body scope dV kV doc pm an cdv ct) ps sp := by
  refine ⟨len, fun A outer s H args us vs Q E p hr hpin e0 hb r hsp => ?_⟩
  have hl := len _ _ _ _ _ hsp
  have KX : K.In s.heap := e0.mod.kin.keeps fun b o e => (e0.bs b o e).1
  have lim : s.heap.NoLimit := e0.mod.nolimit.keeps fun b o e => (e0.bs b o e).1
  have hkind : ∀ y ∈ ps.zip us, scope.names.lookup y.1 = some .local ∨ (scope.names.lookup y.1 = some .cell ∧ ((cellsFrom (s.heap.objs.size + 1) scope.names []).lookup y.1).isSome = true) := by
    rintro ⟨n, v⟩ hy
    rcases S.par n (List.of_mem_zip hy).1 with q | q
    · exact .inl q
    · exact .inr ⟨q, PySem.W.cellsFrom_some _ _ _ (.inl q)⟩
  refine codeAny_call_function hr.depth (KX _ _ lk) rfl S.co S.gen rfl (PySem.W.codeRec_of KX hcd) (hb _ _ _ _ ?_)
  refine wpAny_newFunctionEnv_cells S.kind hkind fun env he s1 x => ?_
  subst he
  refine ⟨lim.keeps x.toInCall.keep, codeAny_func ?_⟩
  obtain ⟨t, ht, hq⟩ := hbody A outer s H vs Q E p (hr.deeper _) hsp
  have I : Inv (L2H.cxH CX P w K mg base N qual scope f cdv A outer s H E p) [] (L2.start N vs) H s1 := L2H.inv_startH S hpin e0 hl r x
  have fin : ∀ {σ' : St} {H' : Hp} {v : V} {u : Value} {s' : Shared}, Inv (L2H.cxH CX P w K mg base N qual scope f cdv A outer s H E p) [] σ' H' s' → RelV v u → Q v H' → CE outer P w H s Q u s' := fun {_ H' v _ _} J rv q => ⟨v, H', J.os, J.bare, J.base, J.hok, rv, q⟩
  refine wpAny_mono (ht.run [] s1 (L2.start N vs) H _ I hq) (fun fl s' hs => ?_) fun e s' hs => hs
  cases fl with
  | ret u => obtain ⟨v, σ', H', J, rv, q⟩ := hs; exact fin J rv q
  | next => obtain ⟨σ', H', J, q⟩ := hs; exact fin (v := V.non) (u := Value.none) J rfl q
  | brk => obtain ⟨_, _, _, q⟩ := hs; exact q.elim
  | cont => obtain ⟨_, _, _, q⟩ := hs; exact q.elim
section
variable {X : Cx} {CX : CXT} {k : Nat} {f : Addr} {fd : FuncData} {ps : List Str} {sp : Addr × Obj → Sp} {E : St → XK} {x : Str} {q pos : Pos} {e : Expr} {es : List Expr} {t : TA} {p : Addr × Obj}
theorem run_fnE {pins : List (Addr × Obj)} {σ : St} {H : Hp} {s : Shared} {Q : VK} {us : List Value} {vs : List V} (F : FnE X.prog X.w X.K X.mg X.base CX k f fd ps sp) (hr : L2H.RoomH k X.A) (hp : p ∈ X.pn) (hb : Binds X.K fd ps []) (hx : PassesAt CX X σ (E σ))
    (I : Inv X pins σ H s) (r : Vals vs us) (h : sp p vs H Q (E σ)) : wpAny (model X.prog X.w) X.A (call (.ref f) us) (EP X pins σ Q) X.xe s := by
  have hl : us.length = ps.length := r.length.symm.trans (F.len _ _ _ _ _ h)
  have b := hb s us I.kIn (by rw [List.append_nil]; exact hl)
  rw [List.append_nil] at b
  have P1 := I.pin p (List.mem_append_left _ hp)
  have hpin : L2H.PinOk X.stack H s p := by
    refine ⟨P1.1, P1.2.1, fun hm => ?_, P1.2.2.2.2⟩
    rcases List.mem_cons.mp (I.stkSub p.1 hm) with z | z
    · exact P1.2.2.1 z
    · exact P1.2.2.2.1 z
  refine wpAny_call (codeAny_mono (F.run X.A X.stack s H ⟨us, []⟩ us vs Q (E σ) p hr hpin I.env0 b r h) fun r s' hq => ?_)
  cases r with
  | error e => exact hx pins H s e s' I hq
  | ok fl =>
    cases fl with
    | ret u => exact I.after hq
    | next => exact hq.elim
    | brk => exact hq.elim
    | cont => exact hq.elim
def tCallE (sp : Addr × Obj → Sp) (p : Addr × Obj) (E : St → XK) (t : TA) : TE := fun σ H Q => t σ H fun vs H1 => sp p vs H1 Q (E σ)
theorem pe_callE (F : FnE X.prog X.w X.K X.mg X.base CX k f fd ps sp) (hr : L2H.RoomH k X.A) (hp : p ∈ X.pn) (hg : Gl X x) (hm : X.mg x = some (.ref f)) (hk : PySem.W.keepIn X.K (.ref f) = true) (hb : Binds X.K fd ps []) (hx : ∀ σ, PassesAt CX X σ (E σ))
    (ha : PA X (e :: es) t) (hdb : (x == ("__debug__" : Str)) = false := by decide) (he : starEach (e :: es) X.env = (false, eval e X.env) :: starEach es X.env := by rfl) (hpl : (backTo pos (starEach es X.env)).any (·.1) = false := by rfl) :
    PE X (.Call (.Name x q) (e :: es) [] pos) (tCallE sp p E t) := by
  refine ⟨fun pins s σ H Q I h => wpAny_Call_Name_kw (ld_glob I hg hm ?_ hdb)⟩
  refine PySem.W.callWith_K (h₀ := X.base) I.ok.mod.kin hk (thn (ha.run pos pins s σ H _ I h) fun us s1 hh => ?_) he hpl
  obtain ⟨vs, H1, I1, r, z⟩ := hh
  exact ⟨I1.kIn, run_fnE F hr hp hb (hx σ) I1 r z⟩
end
end L2
end
section
set_option Elab.async false
set_option linter.all false
set_option maxRecDepth 100000
set_option maxHeartbeats 2000000
namespace Hj
open PySem PySem.Spec PyProof.Rows L2

/-! ### what is kept -/
def imm : HO → Prop
  | .tup _ => True
  | .frz _ _ => True
  | _ => False
/-- all that was tracked stands, but what may be written at S -/
def Kp (S : List Addr) (H H' : Hp) : Prop := ∀ a o, H a = some o → (a ∉ S ∨ imm o) → H' a = some o
section
variable {S S' : List Addr} {H H' H1 H2 : Hp} {a p : Addr} {o o' : HO} {K : PySem.W.Frag} {xs : List V}
theorem Kp.refl : Kp S H H := fun _ _ h _ => h
theorem Kp.trans (x : Kp S H H1) (y : Kp S H1 H2) : Kp S H H2 := fun b u h z => y b u (x b u h z) z
theorem Kp.mono (x : Kp S H H1) (h : ∀ b ∈ S, b ∈ S') : Kp S' H H1 := fun b u e z => x b u e (z.imp (fun q r => q (h b r)) id)
theorem Kp.all (x : Kp [] H H1) : Kp S H H1 := x.mono fun b h => absurd h (by simp)
theorem Kp.new (h : H p = none) : Kp S H (upd H p o) := fun b u e _ => by rw [upd_ne (ne_of_none e h)]; exact e
theorem Kp.put (hm : a ∈ S) (h : H a = some o) (hn : ¬ imm o) : Kp S H (upd H a o') := fun b u e z => by
  have ne : b ≠ a := fun q => by
    subst q
    rw [h] at e
    cases e
    exact z.elim (fun r => r hm) hn
  rw [upd_ne ne]
  exact e
theorem Kp.putN (x : Kp S H H1) (hn : H a = none) : Kp S H (upd H1 a o') := fun b u e z => by rw [upd_ne (ne_of_none e hn)]; exact x b u e z
theorem Kp.get (x : Kp S H H') (h : H a = some o) (hn : a ∉ S) : H' a = some o := x a o h (.inl hn)
theorem Kp.tup (x : Kp S H H') (h : H a = some (.tup xs)) : H' a = some (.tup xs) := x a _ h (.inr trivial)
/-- what was written there was not there before -/
theorem Kp.thin (x : Kp S' H H1) (h : ∀ b ∈ S', b ∈ S ∨ H b = none) : Kp S H H1 := fun b u e z => x b u e (by
  rcases z with z | z
  · by_cases hb : b ∈ S'
    · rcases h b hb with q | q
      · exact absurd q z
      · rw [q] at e; cases e
    · exact .inl hb
  · exact .inr z)
theorem Kp.free (x : Kp S H H') (h : H' a = none) (hs : ∀ b ∈ S, H b ≠ none → H' b ≠ none) : H a = none := by
  cases e : H a with
  | none => rfl
  | some u =>
    by_cases hb : a ∈ S
    · exact absurd h (hs a hb (by rw [e]; simp))
    · rw [x a u e (.inl hb)] at h; cases h
theorem Kp.free0 (x : Kp [] H H') (h : H' a = none) : H a = none := x.free h fun b hb => absurd hb (by simp)
theorem Kp.rdT (x : Kp S H H') (h : Rd H a (.tup xs)) : Rd H' a (.tup xs) := by
  rcases h with h | ⟨u, h⟩
  · exact .inl (x.tup h)
  · exact .inr ⟨u, x a _ h (.inr trivial)⟩
theorem Kp.sqT (x : Kp S H H') (h : SqT K H a xs) : SqT K H' a xs := by
  rcases h with h | h
  · exact .inl (x.rdT h)
  · exact .inr h
theorem Kp.sqL (x : Kp S H H') (h : SqL K H a xs) (hn : a ∉ S) : SqL K H' a xs := by
  rcases h with (h | ⟨u, h⟩) | h
  · exact .inl (.inl (x.get h hn))
  · exact .inl (.inr ⟨u, x a _ h (.inr trivial)⟩)
  · exact .inr h
end

/-! ### data that never change -/
mutual
def flatD : PyData → Bool
  | .list _ => false
  | .dict _ => false
  | .tuple ds => flatDs ds
  | _ => true
def flatDs : List PyData → Bool
  | [] => true
  | d :: ds => flatD d && flatDs ds
end
section
variable {S : List Addr} {H H' : Hp} {K : PySem.W.Frag}
mutual
theorem dp_keep (x : Kp S H H') : ∀ (d : PyData) (v : V), flatD d = true → Dp K H v d → Dp K H' v d
  | .none, _, _, h => by cases h; exact .non
  | .bool _, _, _, h => by cases h; exact .bl _
  | .int _, _, _, h => by cases h; exact .int _
  | .str _, _, _, h => by cases h; exact .str _
  | .list _, _, f, _ => by cases f
  | .dict _, _, f, _ => by cases f
  | .tuple ds, _, f, h => by
    cases h with
    | tup hs ha => exact .tup (x.sqT hs) (dps_keep x ds _ f ha)
theorem dps_keep (x : Kp S H H') : ∀ (ds : List PyData) (vs : List V), flatDs ds = true → DpAll K H vs ds → DpAll K H' vs ds
  | [], _, _, h => by cases h; exact .nil
  | d :: ds, _, f, h => by
    obtain ⟨f1, f2⟩ := Bool.and_eq_true_iff.mp f
    cases h with
    | cons h1 h2 => exact .cons (dp_keep x d _ f1 h1) (dps_keep x ds _ f2 h2)
end
theorem DpAll.app : ∀ {vs us : List V} {ds es : List PyData}, DpAll K H vs ds → DpAll K H us es → DpAll K H (vs ++ us) (ds ++ es)
  | _, _, _, _, .nil, h => h
  | _, _, _, _, .cons h1 h2, h => .cons h1 (DpAll.app h2 h)
theorem DpAll.len : ∀ {vs : List V} {ds : List PyData}, DpAll K H vs ds → vs.length = ds.length
  | _, _, .nil => rfl
  | _, _, .cons _ h => congrArg (· + 1) (DpAll.len h)
theorem DpAll.get : ∀ {vs : List V} {ds : List PyData} {i : Nat} {v : V}, DpAll K H vs ds → vs[i]? = some v → ∃ d, ds[i]? = some d ∧ Dp K H v d
  | _, _, _, _, .nil, h => by simp at h
  | _, _, 0, _, .cons h1 h2, h => by simp at h; subst h; exact ⟨_, rfl, h1⟩
  | _, _, i + 1, _, .cons h1 h2, h => by simpa using DpAll.get (i := i) h2 (by simpa using h)
theorem DpAll.strs : ∀ ws : List Str, DpAll K H (ws.map V.str) (ws.map PyData.str)
  | [] => .nil
  | w :: ws => .cons (.str w) (DpAll.strs ws)
theorem DpAll.drop : ∀ (n : Nat) {vs : List V} {ds : List PyData}, DpAll K H vs ds → DpAll K H (vs.drop n) (ds.drop n)
  | 0, _, _, h => h
  | _ + 1, _, _, .nil => .nil
  | n + 1, _, _, .cons _ h => DpAll.drop n h
theorem DpAll.take : ∀ (n : Nat) {vs : List V} {ds : List PyData}, DpAll K H vs ds → DpAll K H (vs.take n) (ds.take n)
  | 0, _, _, _ => .nil
  | _ + 1, _, _, .nil => .nil
  | n + 1, _, _, .cons h1 h => .cons h1 (DpAll.take n h)
end

/-! ### orders as data -/
def dT (t : Tst) : PyData := if t.neg = true then .tuple [.str kNot, .tuple [.str t.w, .str t.x, .str t.y]] else .tuple [.str t.w, .str t.x, .str t.y]
mutual
def dS : Stm → PyData
  | .join x y => .tuple [.str kJoin, .str x, .str y]
  | .clear g => .tuple [.str kClear, .str g]
  | .ite t b o => .tuple [.str kIf, dT t, .tuple (dL b), .tuple (dL o)]
  | .wh t b => .tuple [.str kWhile, dT t, .tuple (dL b)]
  | .each v b => .tuple [.str kEach, .str v, .tuple (dL b)]
def dL : List Stm → List PyData
  | [] => []
  | s :: r => dS s :: dL r
end
def dO (o : List Stm) : PyData := .tuple (dL o)
theorem dL_app : ∀ a b : List Stm, dL (a ++ b) = dL a ++ dL b
  | [], _ => by simp [dL]
  | s :: r, b => by simp [dL, dL_app r b]
theorem dL_len : ∀ a : List Stm, (dL a).length = a.length
  | [] => by simp [dL]
  | s :: r => by simp [dL, dL_len r]
theorem dL_get : ∀ {o : List Stm} {i : Nat} {d : PyData}, (dL o)[i]? = some d → ∃ s, o[i]? = some s ∧ d = dS s
  | [], _, _, h => by simp [dL] at h
  | s :: r, 0, d, h => by simp [dL] at h; exact ⟨s, rfl, h.symm⟩
  | s :: r, i + 1, d, h => by
    have h2 : (dL r)[i]? = some d := by simpa [dL] using h
    obtain ⟨s', h3, h4⟩ := dL_get h2
    exact ⟨s', by simpa using h3, h4⟩
theorem flat_T (t : Tst) : flatD (dT t) = true := by
  unfold dT
  split <;> simp [flatD, flatDs]
mutual
theorem flat_S : ∀ s : Stm, flatD (dS s) = true
  | .join x y => by simp [dS, flatD, flatDs]
  | .clear g => by simp [dS, flatD, flatDs]
  | .ite t b o => by simp [dS, flatD, flatDs, flat_T, flat_L b, flat_L o]
  | .wh t b => by simp [dS, flatD, flatDs, flat_T, flat_L b]
  | .each v b => by simp [dS, flatD, flatDs, flat_L b]
theorem flat_L : ∀ o : List Stm, flatDs (dL o) = true
  | [] => by simp [dL, flatDs]
  | s :: r => by simp [dL, flatDs, flat_S s, flat_L r]
end
theorem flat_O (o : List Stm) : flatD (dO o) = true := flat_L o

/-! ### small sizes -/
theorem sz {n : Nat} (h : n ≤ 1000000) : n ≤ sizeLine := by rw [sizeLine_eq]; omega
theorem szl {n : Nat} (h : n < 1000000) : n < sizeLine := by rw [sizeLine_eq]; omega

/-! ### operators of several kinds -/
section
variable {X : Cx}
abbrev rAddI : R2 := rI0 fun i j => .int (i + j)
def rAddS : R2 := fun x y H Q => ∃ i j, x = .str i ∧ y = .str j ∧ i.length + j.length ≤ sizeLine ∧ Q (.str (i ++ j)) H
theorem op_addS : OpR X (binaryOp .Add) rAddS := op_add_str
def rAdd3 : R2 := fun x y H Q => rAddI x y H Q ∨ (rAddS x y H Q ∨ rCat x y H Q)
theorem opAdd : OpR X (binaryOp .Add) rAdd3 := OpR.or op_add (OpR.or op_addS op_cat)
def rSgn (neg : Bool) : R2 := fun x y H Q => ∃ (c : Nat) (z : Str), x = .str ⟨#[c]⟩ ∧ y = .str z ∧ Q (.bl (if neg then !decide (c ∈ z.cps.toList) else decide (c ∈ z.cps.toList))) H
theorem op_sgn : OpR X (compareOp .In) (rSgn false) := op_in_sign
theorem op_nsgn : OpR X (compareOp .NotIn) (rSgn true) := op_notIn_sign
def rIn2 (K : PySem.W.Frag) (neg : Bool) : R2 := fun x y H Q => rIn K neg x y H Q ∨ rSgn neg x y H Q
theorem opIn : OpR X (compareOp .In) (rIn2 X.K false) := OpR.or op_in_seq op_sgn
theorem opNotIn : OpR X (compareOp .NotIn) (rIn2 X.K true) := OpR.or op_notIn_seq op_nsgn
def rSl3 (K : PySem.W.Frag) : V → Option Int → Option Int → Hp → VK → Prop := fun x lo hi H Q => rSlL K x lo hi H Q ∨ (rSlS x lo hi H Q ∨ rSlT K x lo hi H Q)
theorem slAny : SlR X (rSl3 X.K) := SlR.or sl_list (SlR.or sl_str sl_tup)
def rLenA (K : PySem.W.Frag) : List V → Hp → VK → Prop := fun xs H Q => ∃ x n, xs = [x] ∧ LenV K x H n ∧ Q (.int n) H
theorem call_lenA : CallR X (.builtin "len") (rLenA X.K) := call_len
def rTupOf (K : PySem.W.Frag) : List V → Hp → VK → Prop := fun xs H Q => ∃ p ys, xs = [.ref p] ∧ ((SqL K H p ys ∧ ∀ l, H l = none → Q (.ref l) (upd H l (.tup ys))) ∨ (SqT K H p ys ∧ Q (.ref p) H))
theorem call_tupOf : CallR X (.type "tuple") (rTupOf X.K) := call_tuple_of
def rLstOf (K : PySem.W.Frag) : List V → Hp → VK → Prop := fun xs H Q => ∃ p ys, xs = [.ref p] ∧ (SqL K H p ys ∨ SqT K H p ys) ∧ ∀ l, H l = none → Q (.ref l) (upd H l (.lst ys))
theorem call_lstOf : CallR X (.type "list") (rLstOf X.K) := call_list_of
def rIntOf : List V → Hp → VK → Prop := fun xs H Q => (∃ i, xs = [.int i] ∧ Q (.int i) H) ∨ ∃ k, xs = [.bl k] ∧ Q (.int (if k then 1 else 0)) H
theorem call_intOf : CallR X (.type "int") rIntOf := call_int1
def rMax2 : List V → Hp → VK → Prop := fun xs H Q => ∃ i j, xs = [.int i, .int j] ∧ Q (.int (if j > i then j else i)) H
theorem call_mx (hc : X.calm = true) : CallR X (.builtin "max") rMax2 := call_max2 hc
def rStrI : List V → Hp → VK → Prop := fun xs H Q => ∃ i : Int, xs = [.int i] ∧ i.natAbs.log2 < 1920 ∧ Q (.str (toString i)) H
theorem call_strI : CallR X (.type "str") rStrI := call_str_int
def rIsNon : R2 := fun x y H Q => y = .non ∧ Q (.bl (decide (x = .non))) H
theorem op_isNon : OpR X (compareOp .Is) rIsNon := op_isN
def rLeS : R2 := fun x y H Q => ∃ i j, x = .str i ∧ y = .str j ∧ Q (.bl (!decide (j.cps.toList < i.cps.toList))) H
theorem op_leS : OpR X (compareOp .LtE) rLeS := op_le_str
end

/-! ### defs by their names -/
structure Dn (P : Program) (w : World) (K : PySem.W.Frag) (mg : Str → Option Value) (base : Heap) (CX : CXT) (k : Nat) (x : Str) (ps : List Str) (sp : Sp) : Prop where
  ex : ∃ f fd, FnOk P w K mg base CX k f fd ps sp ∧ mg x = some (.ref f) ∧ PySem.W.keepIn K (.ref f) = true ∧ Binds K fd ps []
structure Mn (P : Program) (w : World) (K : PySem.W.Frag) (mg : Str → Option Value) (base : Heap) (CX : CXT) (k : Nat) (C : Addr) (m : Str) (ps : List Str) (sp : Sp) : Prop where
  ex : ∃ f fd, FnOk P w K mg base CX k f fd ps sp ∧ Meth K C m f ∧ Binds K fd ps []
structure Nn (P : Program) (w : World) (K : PySem.W.Frag) (mg : Str → Option Value) (base : Heap) (CX : CXT) (k : Nat) (x : Str) (C : Addr) (ps : List Str) (sp : Sp) : Prop where
  ex : ∃ f fd, FnOk P w K mg base CX k f fd ps sp ∧ Mk K C f ∧ mg x = some (.ref C) ∧ Binds K fd ps []
section
variable {P : Program} {w : World} {K : PySem.W.Frag} {mg : Str → Option Value} {base : Heap} {CX : CXT} {j k : Nat} {x m : Str} {C : Addr} {ps : List Str} {sp sp' : Sp}
theorem Dn.mono (D : Dn P w K mg base CX j x ps sp) (h : j ≤ k) : Dn P w K mg base CX k x ps sp := by
  obtain ⟨f, fd, F, r⟩ := D.ex
  exact ⟨⟨f, fd, F.mono h, r⟩⟩
theorem Mn.mono (D : Mn P w K mg base CX j C m ps sp) (h : j ≤ k) : Mn P w K mg base CX k C m ps sp := by
  obtain ⟨f, fd, F, r⟩ := D.ex
  exact ⟨⟨f, fd, F.mono h, r⟩⟩
theorem Nn.mono (D : Nn P w K mg base CX j x C ps sp) (h : j ≤ k) : Nn P w K mg base CX k x C ps sp := by
  obtain ⟨f, fd, F, r⟩ := D.ex
  exact ⟨⟨f, fd, F.mono h, r⟩⟩
theorem Dn.imp (D : Dn P w K mg base CX k x ps sp) (h : ∀ vs H Q E, sp' vs H Q E → sp vs H Q E) : Dn P w K mg base CX k x ps sp' := by
  obtain ⟨f, fd, F, r⟩ := D.ex
  exact ⟨⟨f, fd, F.imp h, r⟩⟩
end
section
variable {X : Cx} {CX : CXT} {k : Nat} {x m : Str} {C : Addr} {ps : List Str} {sp : Sp} {E : XK} {p pos apos : Pos} {e o : Expr} {es : List Expr} {ta : TE} {t : TA}
theorem pe_d (D : Dn X.prog X.w X.K X.mg X.base CX k x ps sp) (hr : Room k X.A) (hx : Passes CX X E) (ha : PA X (e :: es) t) (hg : Gl X x := by rfl) (hdb : (x == ("__debug__" : Str)) = false := by decide)
    (he : starEach (e :: es) X.env = (false, eval e X.env) :: starEach es X.env := by rfl) (hpl : (backTo pos (starEach es X.env)).any (·.1) = false := by rfl) : PE X (.Call (.Name x p) (e :: es) [] pos) (tCall sp [] E t) := by
  obtain ⟨f, fd, F, m1, m2, b⟩ := D.ex
  exact pe_call F hr hg m1 m2 b .nil hx ha hdb he hpl
theorem pe_m {pl : Sem Bool} (c : Cls X.K C) (D : Mn X.prog X.w X.K X.mg X.base CX k C m ps sp) (hr : Room k X.A) (hx : Passes CX X E) (he : PE X o ta) (ha : PA X (e :: es) t)
    (hst : starEach (e :: es) X.env = (false, eval e X.env) :: starEach es X.env := by rfl) (hpl : (backTo pos (starEach es X.env)).any (·.1) = false := by rfl)
    (ht : eval (.Call (.Attribute o m apos) (e :: es) [] pos) X.env = (do
      let a0 ← eval o X.env
      standAt apos.atName
      let (g1, g2) ← holding [a0] (getMethod a0 m pl)
      callWith pos g1 g2 (backTo pos (starEach (e :: es) X.env)) (backToKw pos (keywordEach [] X.env))) := by rfl) :
    PE X (.Call (.Attribute o m apos) (e :: es) [] pos) (tMeth C m sp [] E ta t) := by
  obtain ⟨f, fd, F, m1, b⟩ := D.ex
  exact pe_meth (pl := pl) he c m1 F hr b .nil hx ha hst hpl ht
theorem pe_m0 {pl : Sem Bool} (c : Cls X.K C) (D : Mn X.prog X.w X.K X.mg X.base CX k C m ps sp) (hr : Room k X.A) (hx : Passes CX X E) (he : PE X o ta)
    (ht : eval (.Call (.Attribute o m apos) [] [] pos) X.env = (do
      let a0 ← eval o X.env
      standAt apos.atName
      let (g1, g2) ← holding [a0] (getMethod a0 m pl)
      callWith pos g1 g2 (backTo pos (starEach [] X.env)) (backToKw pos (keywordEach [] X.env))) := by rfl) :
    PE X (.Call (.Attribute o m apos) [] [] pos) (tMeth C m sp [] E ta tNil) := by
  obtain ⟨f, fd, F, m1, b⟩ := D.ex
  exact pe_meth0 (pl := pl) he c m1 F hr b .nil hx ht
theorem pe_n (D : Nn X.prog X.w X.K X.mg X.base CX k x C ps sp) (hr : Room (k + 1) X.A) (hx : Passes CX X E) (ha : PA X (e :: es) t) (hg : Gl X x := by rfl) (hdb : (x == ("__debug__" : Str)) = false := by decide)
    (he : starEach (e :: es) X.env = (false, eval e X.env) :: starEach es X.env := by rfl) (hpl : (backTo pos (starEach es X.env)).any (·.1) = false := by rfl) : PE X (.Call (.Name x p) (e :: es) [] pos) (tMake C sp [] E t) := by
  obtain ⟨f, fd, F, m1, m2, b⟩ := D.ex
  exact pe_make m1 F hr hg m2 b .nil hx ha hdb he hpl
end
end Hj
end
section
set_option Elab.async false
set_option linter.all false
set_option maxRecDepth 100000
set_option maxHeartbeats 2000000
namespace Hj
open PySem PySem.Spec L2
/-! ### readings, one step each -/
section
variable {K : PySem.W.Frag} {σ : St} {H : Hp} {D : Ends} {t u ts : TS} {ta tb te tc2 : TE} {tt tu : TT} {tg tr : TA} {Q : VK} {QT : Bool → Hp → Prop} {QA : List V → Hp → Prop} {i : Nat} {v x y : V} {r : R2} {A B : Prop}
theorem r_seq (h : t { D with nx := u D } σ H) : tSeq t u D σ H := h
theorem r_set (h : te σ H fun x H1 => D.nx (σ.set i (some x)) H1) : tAsg te (gName i) D σ H := h
theorem r_ret (h : te σ H D.rt) : tRet te D σ H := h
theorem r_retN (h : D.rt .non H) : tRetN D σ H := h
theorem r_drop (h : te σ H fun _ H1 => D.nx σ H1) : tDrop te D σ H := h
theorem r_cut (M : L2.St → Hp → Prop) (h : t { D with nx := M } σ H) (k : ∀ σ' H', M σ' H' → u D σ' H') : Evl.tCut t u D σ H := ⟨M, h, k⟩
theorem r_if (h : tt σ H fun b H1 => if b = true then t D σ H1 else u D σ H1) : tIfS tt t u D σ H := h
theorem r_next (h : D.nx σ H) : tNext D σ H := h
theorem r_var (hv : σ[i]? = some (some v)) (h : Q v H) : tVar i σ H Q := ⟨v, hv, h⟩
theorem r_c (h : Q v H) : tC v σ H Q := h
theorem r_cons (h : ta σ H fun x H1 => tr σ H1 fun xs H2 => QA (x :: xs) H2) : tCons ta tr σ H QA := h
theorem r_nil (h : QA [] H) : tNil σ H QA := h
theorem r_op (h : ta σ H fun x H1 => tb σ H1 fun y H2 => r x y H2 Q) : tOp r ta tb σ H Q := h
theorem r_un {ru : V → Hp → VK → Prop} (h : ta σ H fun x H1 => ru x H1 Q) : tUn ru ta σ H Q := h
theorem r_test (h : te σ H fun x H1 => ∃ k, x = .bl k ∧ QT k H1) : tTest te σ H QT := h
theorem r_B (h : te σ H fun x H1 => ∃ k, x = .bl k ∧ QT k H1) : tB te σ H QT := h
theorem r_cb {rc : List V → Hp → VK → Prop} (h : tg σ H fun vs H1 => rc vs H1 Q) : tCB rc tg σ H Q := h
theorem r_and (h : tt σ H fun c H1 => if c = true then tu σ H1 QT else QT false H1) : tAnd tt tu σ H QT := h
theorem r_or (h : tt σ H fun c H1 => if c = true then QT true H1 else tu σ H1 QT) : tOr tt tu σ H QT := h
theorem r_not (h : tt σ H fun c H1 => QT (!c) H1) : tNot tt σ H QT := h
theorem r_andV (h : ta σ H fun x H1 => ∃ c, x = .bl c ∧ if c = true then tb σ H1 Q else Q (.bl false) H1) : tAndV ta tb σ H Q := h
theorem r_orV (h : ta σ H fun x H1 => ∃ c, x = .bl c ∧ if c = true then Q (.bl true) H1 else tb σ H1 Q) : tOrV ta tb σ H Q := h
theorem r_notV (h : ta σ H fun x H1 => ∃ c, x = .bl c ∧ Q (.bl (!c)) H1) : tNotV ta σ H Q := h
theorem r_blV {k : Bool} {F : Bool → Prop} (h : F k) : ∃ c, V.bl k = .bl c ∧ F c := ⟨k, rfl, h⟩
theorem r_call {sp : Sp} {E : XK} (h : tg σ H fun vs H1 => sp (vs ++ []) H1 Q E) : tCall sp [] E tg σ H Q := h
theorem r_tup (h : tg σ H fun xs H1 => xs.length ≤ sizeLine ∧ ∀ p, H1 p = none → Q (.ref p) (upd H1 p (.tup xs))) : tTup tg σ H Q := h
theorem r_lst (h : tg σ H fun xs H1 => xs.length ≤ sizeLine ∧ ∀ p, H1 p = none → Q (.ref p) (upd H1 p (.lst xs))) : tLst tg σ H Q := h
theorem r_new {xs : List V} {F : Prop} (hz : xs.length ≤ 1000000) (h : F) : xs.length ≤ sizeLine ∧ F := ⟨sz hz, h⟩
theorem r_gname {Q2 : L2.St → Hp → Prop} (h : Q2 (σ.set i (some v)) H) : gName i v σ H Q2 := h
theorem r_asg {g : TG} (h : te σ H fun x H1 => g x σ H1 D.nx) : tAsg te g D σ H := h
theorem r_sub {ti : TE} {w : V} {rs : V → V → V → Hp → (Hp → Prop) → Prop} {QS : St → Hp → Prop} (h : ta σ H fun o H1 => ti σ H1 fun i H2 => rs o i w H2 fun H3 => QS σ H3) : gSub ta ti rs w σ H QS := h
theorem r_bm {T : String} {rm : V → List V → Hp → VK → Prop} (h : ta σ H fun x H1 => tyV K T x H1 ∧ tg σ H1 fun xs H2 => rm x xs H2 Q) : tBM K T rm ta tg σ H Q := h
theorem r_bm0 {T : String} {rm : V → List V → Hp → VK → Prop} (h : ta σ H fun x H1 => tyV K T x H1 ∧ rm x [] H1 Q) : tBM0 K T rm ta σ H Q := h
theorem r_meth {C : Addr} {m : Str} {sp : Sp} {E : XK} (h : ta σ H fun x H1 => ∃ a dx fs, x = .ref a ∧ H1 a = some (.ins C dx fs) ∧ fs.lookup m = none ∧ tg σ H1 fun vs H2 => sp (x :: (vs ++ [])) H2 Q E) : tMeth C m sp [] E ta tg σ H Q := h
theorem r_make {C : Addr} {sp : Sp} {E : XK} (h : tg σ H fun vs H1 => ∀ x dx, H1 x = none → H1 dx = none → dx ≠ x → sp (.ref x :: (vs ++ [])) (upd (upd H1 dx (.own x)) x (.ins C dx [])) (fun v H2 => v = .non ∧ Q (.ref x) H2) E) : tMake C sp [] E tg σ H Q := h
theorem r_sl {rs : V → Option Int → Option Int → Hp → VK → Prop} {tl th : TO} (h : te σ H fun x H1 => tl σ H1 fun lo H2 => th σ H2 fun hi H3 => rs x lo hi H3 Q) : tSl rs te tl th σ H Q := h
theorem r_no {QO : Option Int → Hp → Prop} (h : QO none H) : tNoPart σ H QO := h
theorem r_part {QO : Option Int → Hp → Prop} (h : te σ H fun x H1 => ∃ i, x = .int i ∧ QO (some i) H1) : tPart te σ H QO := h
theorem r_partI {F : Int → Prop} {n : Int} (h : F n) : ∃ i, V.int n = .int i ∧ F i := ⟨n, rfl, h⟩
theorem r_m1 {rm : V → List V → Hp → VK → Prop} (h : ta σ H fun x H1 => (∃ a, x = .str a) ∧ te σ H1 fun y H2 => rm x [y] H2 Q) : tM1 rm ta te σ H Q := h
theorem r_strs {z : Str} (h : A) : (∃ a, V.str z = .str a) ∧ A := ⟨⟨z, rfl⟩, h⟩
/-! values -/
theorem r_I0 {g : Int → Int → V} {a b : Int} (h : Q (g a b) H) : rI0 g (.int a) (.int b) H Q := ⟨a, b, rfl, rfl, h⟩
theorem r_addI {a b : Int} (h : Q (.int (a + b)) H) : rAdd3 (.int a) (.int b) H Q := .inl ⟨a, b, rfl, rfl, h⟩
theorem r_addS {a b : Str} (hz : a.length + b.length ≤ 1000000) (h : Q (.str (a ++ b)) H) : rAdd3 (.str a) (.str b) H Q := .inr (.inl ⟨a, b, rfl, rfl, sz hz, h⟩)
theorem r_addL {a b : Addr} {xs ys : List V} (ha : H a = some (.lst xs)) (hb : H b = some (.lst ys)) (hz : xs.length + ys.length ≤ 1000000) (h : ∀ p, H p = none → Q (.ref p) (upd H p (.lst (xs ++ ys)))) :
    rAdd3 (.ref a) (.ref b) H Q := .inr (.inr ⟨a, b, xs, ys, rfl, rfl, ha, hb, sz hz, h⟩)
theorem r_mul {a b : Int} (hc : CMul a b) (h : Q (.int (a * b)) H) : rI CMul (fun i j => .int (i * j)) (.int a) (.int b) H Q := ⟨a, b, rfl, rfl, hc, h⟩
theorem r_mod {a b : Int} (hc : 0 < b) (h : Q (.int (a % b)) H) : rI (fun _ j => 0 < j) (fun i j => .int (i % j)) (.int a) (.int b) H Q := ⟨a, b, rfl, rfl, hc, h⟩
theorem r_fdiv {a b : Int} (hc : CDiv a b) (h : Q (.int (a / b)) H) : rI CDiv (fun i j => .int (i / j)) (.int a) (.int b) H Q := ⟨a, b, rfl, rfl, hc, h⟩
theorem r_modG {a b : Int} (hc : 0 < b) (h : ∀ r : Int, 0 ≤ r → r < b → Q (.int r) H) : rI (fun _ j => 0 < j) (fun i j => .int (i % j)) (.int a) (.int b) H Q := ⟨a, b, rfl, rfl, hc, h _ (Int.emod_nonneg _ (by omega)) (Int.emod_lt_of_pos _ hc)⟩
theorem r_fdivG {a b : Int} (hc : CDiv a b) (h : ∀ r : Int, Q (.int r) H) : rI CDiv (fun i j => .int (i / j)) (.int a) (.int b) H Q := ⟨a, b, rfl, rfl, hc, h _⟩
theorem r_mulG {a b : Int} (hc : CMul a b) (h : ∀ r : Int, Q (.int r) H) : rI CMul (fun i j => .int (i * j)) (.int a) (.int b) H Q := ⟨a, b, rfl, rfl, hc, h _⟩
theorem r_addG {a b : Int} (h : ∀ r : Int, Q (.int r) H) : rAdd3 (.int a) (.int b) H Q := r_addI (h _)
theorem r_eqS {a b : Str} (h : Q (.bl (decide (a = b))) H) : rEq (.str a) (.str b) H Q := ⟨rfl, by
  have e : decide (V.str a = V.str b) = decide (a = b) := decide_eq_decide.mpr ⟨fun z => V.str.inj z, fun z => by rw [z]⟩
  rw [e]
  exact h⟩
theorem r_eqI {a b : Int} (h : Q (.bl (decide (a = b))) H) : rEq (.int a) (.int b) H Q := ⟨rfl, by
  have e : decide (V.int a = V.int b) = decide (a = b) := decide_eq_decide.mpr ⟨fun z => V.int.inj z, fun z => by rw [z]⟩
  rw [e]
  exact h⟩
theorem r_eqB {a b : Bool} (h : Q (.bl (decide (a = b))) H) : rEq (.bl a) (.bl b) H Q := ⟨rfl, by
  have e : decide (V.bl a = V.bl b) = decide (a = b) := decide_eq_decide.mpr ⟨fun z => V.bl.inj z, fun z => by rw [z]⟩
  rw [e]
  exact h⟩
theorem r_neS {a b : Str} (h : Q (.bl (!decide (a = b))) H) : rNe (.str a) (.str b) H Q := ⟨rfl, by
  have e : decide (V.str a = V.str b) = decide (a = b) := decide_eq_decide.mpr ⟨fun z => V.str.inj z, fun z => by rw [z]⟩
  rw [e]
  exact h⟩
theorem r_neI {a b : Int} (h : Q (.bl (!decide (a = b))) H) : rNe (.int a) (.int b) H Q := ⟨rfl, by
  have e : decide (V.int a = V.int b) = decide (a = b) := decide_eq_decide.mpr ⟨fun z => V.int.inj z, fun z => by rw [z]⟩
  rw [e]
  exact h⟩
theorem r_neg {n : Int} (h : Q (.int (-n)) H) : rU (fun i => .int (-i)) (.int n) H Q := ⟨n, rfl, h⟩
theorem r_isN (h : Q (.bl (decide (x = .non))) H) : rIsNon x .non H Q := ⟨rfl, h⟩
theorem r_lenS {z : Str} (hz : z.length ≤ 1000000) (h : Q (.int (z.length : Nat)) H) : rLenA K [.str z] H Q := ⟨_, z.length, rfl, ⟨sz hz, rfl⟩, h⟩
theorem r_lenL {a : Addr} {xs : List V} (hx : SqL K H a xs) (h : Q (.int (xs.length : Nat)) H) : rLenA K [.ref a] H Q := ⟨_, xs.length, rfl, .inl ⟨xs, hx, rfl⟩, h⟩
theorem r_lenT {a : Addr} {xs : List V} (hx : SqT K H a xs) (h : Q (.int (xs.length : Nat)) H) : rLenA K [.ref a] H Q := ⟨_, xs.length, rfl, .inr ⟨xs, hx, rfl⟩, h⟩
theorem r_tupOf {a : Addr} {xs : List V} (hx : SqL K H a xs) (h : ∀ p, H p = none → Q (.ref p) (upd H p (.tup xs))) : rTupOf K [.ref a] H Q := ⟨a, xs, rfl, .inl ⟨hx, h⟩⟩
theorem r_lstOfL {a : Addr} {xs : List V} (hx : SqL K H a xs) (h : ∀ p, H p = none → Q (.ref p) (upd H p (.lst xs))) : rLstOf K [.ref a] H Q := ⟨a, xs, rfl, .inl hx, h⟩
theorem r_lstOfT {a : Addr} {xs : List V} (hx : SqT K H a xs) (h : ∀ p, H p = none → Q (.ref p) (upd H p (.lst xs))) : rLstOf K [.ref a] H Q := ⟨a, xs, rfl, .inr hx, h⟩
theorem r_intOf {a : Int} (h : Q (.int a) H) : rIntOf [.int a] H Q := .inl ⟨a, rfl, h⟩
theorem r_strI {n : Int} (h1 : 0 ≤ n) (h2 : n < 1000000) (h : Q (.str (toString n)) H) : rStrI [.int n] H Q := ⟨n, rfl, by
  have h3 : n.natAbs < 2 ^ 1920 := by
    have : (1000000 : Nat) ≤ 2 ^ 1920 := by decide +kernel
    omega
  by_cases h0 : n.natAbs = 0
  · rw [h0]; decide
  · exact (Nat.log2_lt h0).mpr h3, h⟩
theorem r_mx {a b : Int} (h : Q (.int (max a b)) H) : rMax2 [.int a, .int b] H Q := ⟨a, b, rfl, by
  have e : (if b > a then b else a) = max a b := by
    split <;> omega
  rw [e]
  exact h⟩
theorem r_ixL {a : Addr} {xs : List V} {n : Int} (hx : SqL K H a xs) (hi : atI xs n = some v) (h : Q v H) : rIx K (.ref a) (.int n) H Q := .inl ⟨a, xs, n, v, rfl, rfl, hx, hi, h⟩
theorem r_ixT {a : Addr} {xs : List V} {n : Int} (hx : SqT K H a xs) (hi : atI xs n = some v) (h : Q v H) : rIx K (.ref a) (.int n) H Q := .inr (.inl ⟨a, xs, n, v, rfl, rfl, hx, hi, h⟩)
theorem r_ixS {z : Str} {n : Int} {c : Nat} (hz : z.length ≤ 1000000) (hi : atI z.cps.toList n = some c) (h : Q (.str ⟨#[c]⟩) H) : rIx K (.str z) (.int n) H Q := .inr (.inr ⟨z, n, c, rfl, rfl, sz hz, hi, h⟩)
theorem r_inL {a : Addr} {xs : List V} (hx : SqL K H a xs) (f1 : flatV x = true) (f2 : xs.all flatV = true) (h : Q (.bl (inV x xs)) H) : rIn2 K false x (.ref a) H Q := .inl ⟨a, xs, rfl, .inl hx, f1, f2, h⟩
theorem r_inT {a : Addr} {xs : List V} (hx : SqT K H a xs) (f1 : flatV x = true) (f2 : xs.all flatV = true) (h : Q (.bl (inV x xs)) H) : rIn2 K false x (.ref a) H Q := .inl ⟨a, xs, rfl, .inr hx, f1, f2, h⟩
theorem r_ninL {a : Addr} {xs : List V} (hx : SqL K H a xs) (f1 : flatV x = true) (f2 : xs.all flatV = true) (h : Q (.bl (!inV x xs)) H) : rIn2 K true x (.ref a) H Q := .inl ⟨a, xs, rfl, .inl hx, f1, f2, h⟩
theorem r_ninT {a : Addr} {xs : List V} (hx : SqT K H a xs) (f1 : flatV x = true) (f2 : xs.all flatV = true) (h : Q (.bl (!inV x xs)) H) : rIn2 K true x (.ref a) H Q := .inl ⟨a, xs, rfl, .inr hx, f1, f2, h⟩
theorem r_inS {c : Nat} {z : Str} (h : Q (.bl (decide (c ∈ z.cps.toList))) H) : rIn2 K false (.str ⟨#[c]⟩) (.str z) H Q := .inr ⟨c, z, rfl, rfl, h⟩
theorem r_ninS {c : Nat} {z : Str} (h : Q (.bl (!decide (c ∈ z.cps.toList))) H) : rIn2 K true (.str ⟨#[c]⟩) (.str z) H Q := .inr ⟨c, z, rfl, rfl, h⟩
theorem r_app {l : Addr} {xs : List V} (hl : H l = some (.lst xs)) (hz : xs.length < 1000000) (h : Q .non (upd H l (.lst (xs ++ [y])))) : rAppend (.ref l) [y] H Q := ⟨l, xs, y, rfl, rfl, hl, szl hz, h⟩
theorem r_ext {l b : Addr} {xs ys : List V} (hl : H l = some (.lst xs)) (hb : H b = some (.lst ys)) (hz : xs.length + ys.length ≤ 1000000) (h : Q .non (upd H l (.lst (xs ++ ys)))) : rExtend (.ref l) [.ref b] H Q := ⟨l, b, xs, ys, rfl, rfl, hl, hb, sz hz, h⟩
theorem r_pop {l : Addr} {xs : List V} (hl : H l = some (.lst xs)) (hy : xs[xs.length - 1]? = some y) (h : Q y (upd H l (.lst xs.dropLast))) : rPop (.ref l) [] H Q := ⟨l, xs, y, rfl, rfl, hl, hy, h⟩
theorem r_tyL {a : Addr} {xs : List V} (hx : SqL K H a xs) (h : A) : tyV K "list" (.ref a) H ∧ A := ⟨.inl ⟨rfl, xs, hx⟩, h⟩
theorem r_fld {a C dx : Addr} {fs : List (Str × V)} {f : Str} (ho : H a = some (.ins C dx fs)) (c : Cls K C) (n : NoAttr K C f) (l : fs.lookup f = some v) (h : Q v H) : ∃ a' C' dx' fs' v', V.ref a = .ref a' ∧ H a' = some (.ins C' dx' fs') ∧ Cls K C' ∧ NoAttr K C' f ∧ fs'.lookup f = some v' ∧ Q v' H :=
  ⟨a, C, dx, fs, v, rfl, ho, c, n, l, h⟩
theorem r_fldE {f : Str} (h : ta σ H fun x H1 => ∃ a C dx fs v, x = .ref a ∧ H1 a = some (.ins C dx fs) ∧ Cls K C ∧ NoAttr K C f ∧ fs.lookup f = some v ∧ Q v H1) : tFld K ta f σ H Q := h
theorem r_setF {f : Str} (h : te σ H fun y H1 => ta σ H1 fun x H2 => ∃ a C dx fs, x = .ref a ∧ H2 a = some (.ins C dx fs) ∧ Cls K C ∧ NoAttr K C f ∧ fs.length < 1000 ∧ D.nx σ (upd H2 a (.ins C dx (putF f y fs)))) : sFld K ta te f D σ H := h
theorem r_put {a C dx : Addr} {fs : List (Str × V)} {f : Str} {N : Hp → Prop} (ho : H a = some (.ins C dx fs)) (c : Cls K C) (n : NoAttr K C f) (l : fs.length < 1000) (h : N (upd H a (.ins C dx (putF f y fs)))) : ∃ a' C' dx' fs', V.ref a = .ref a' ∧ H a' = some (.ins C' dx' fs') ∧ Cls K C' ∧ NoAttr K C' f ∧ fs'.length < 1000 ∧ N (upd H a' (.ins C' dx' (putF f y fs'))) :=
  ⟨a, C, dx, fs, rfl, ho, c, n, l, h⟩
theorem r_mt {a C dx : Addr} {fs : List (Str × V)} {m : Str} (ho : H a = some (.ins C dx fs)) (l : fs.lookup m = none) (h : A) : ∃ a' dx' fs', V.ref a = .ref a' ∧ H a' = some (.ins C dx' fs') ∧ fs'.lookup m = none ∧ A := ⟨a, dx, fs, rfl, ho, l, h⟩
theorem r_setL {l : Addr} {xs : List V} {n : Int} {j : Nat} {N : Hp → Prop} (hl : H l = some (.lst xs)) (hi : ixN xs.length n = some j) (h : N (upd H l (.lst (xs.set j v)))) : rSetL (.ref l) (.int n) v H N := ⟨l, xs, n, j, rfl, rfl, hl, hi, h⟩
theorem r_slL {a : Addr} {xs : List V} {lo hi : Option Int} (hx : SqL K H a xs) (h : ∀ p, H p = none → Q (.ref p) (upd H p (.lst (cutV xs lo hi)))) : rSl3 K (.ref a) lo hi H Q := .inl ⟨a, xs, rfl, hx, h⟩
theorem r_slS {z : Str} {lo hi : Option Int} (hz : z.length ≤ 1000000) (h : Q (.str (cutS z lo hi)) H) : rSl3 K (.str z) lo hi H Q := .inr (.inl ⟨z, rfl, sz hz, h⟩)
theorem r_slT {a : Addr} {xs : List V} {lo hi : Option Int} (hx : SqT K H a xs) (hn : ¬ (HT.sIx xs.length 0 lo = 0 ∧ HT.sIx xs.length xs.length hi = xs.length)) (h : ∀ p, H p = none → Q (.ref p) (upd H p (.tup (cutV xs lo hi)))) :
    rSl3 K (.ref a) lo hi H Q := .inr (.inr ⟨a, xs, rfl, hx, hn, h⟩)
/-! loops: what is walked -/
theorem r_for {wi : TI} {g : TG} {tb : TS} (h : wi σ H fun J H1 => ∃ W : Nat → Nat → L2.St → Hp → Prop, (∃ m, W 0 m σ H1) ∧ ∀ i m σ H, W i m σ H → (J.stop i H ∧ D.nx σ H) ∨ (J.go i H ∧ ∃ N : L2.St → Hp → Prop, (∀ σ' H', N σ' H' → ∃ m', m' < m ∧ W (i + 1) m' σ' H') ∧
    ∀ x H', J.yld i H x H' → g x σ H' fun σ2 H2 => tb { D with nx := N, ct := N, bk := D.nx } σ2 H2)) : tFor wi g tb D σ H := h
theorem r_rng {R : It → Hp → Prop} (h : tg σ H fun vs H1 => ∃ j : Int, vs = [.int j] ∧ -(2 ^ 62) ≤ j ∧ j < 2 ^ 62 ∧ R (Itr 0 j.toNat) H1) : iRng1 tg σ H R := h
theorem r_rngE {B : Int → Prop} {n : Int} (h1 : -1000000 ≤ n) (h2 : n ≤ 1000000) (h : B n) : ∃ j : Int, [V.int n] = [.int j] ∧ -(2 ^ 62) ≤ j ∧ j < 2 ^ 62 ∧ B j := ⟨n, rfl, by omega, by omega, h⟩
theorem r_itL {R : It → Hp → Prop} (h : te σ H fun x H1 => ∃ a, x = .ref a ∧ (∃ xs, SqL K H1 a xs) ∧ R (Itl K a) H1) : iList K te σ H R := h
theorem r_itT {R : It → Hp → Prop} (h : te σ H fun x H1 => ∃ a, x = .ref a ∧ (∃ xs, SqT K H1 a xs) ∧ R (Itt K a) H1) : iTup K te σ H R := h
theorem r_itLE {B : Addr → Prop} {a : Addr} {xs : List V} (hx : SqL K H a xs) (h : B a) : ∃ a', V.ref a = .ref a' ∧ (∃ xs, SqL K H a' xs) ∧ B a' := ⟨a, rfl, ⟨xs, hx⟩, h⟩
theorem r_itTE {B : Addr → Prop} {a : Addr} {xs : List V} (hx : SqT K H a xs) (h : B a) : ∃ a', V.ref a = .ref a' ∧ (∃ xs, SqT K H a' xs) ∧ B a' := ⟨a, rfl, ⟨xs, hx⟩, h⟩
theorem r_itS {R : It → Hp → Prop} (h : te σ H fun x H1 => ∃ z, x = .str z ∧ R (Its z) H1) : iStr te σ H R := h
theorem r_itSE {B : Str → Prop} {z : Str} (h : B z) : ∃ z', V.str z = .str z' ∧ B z' := ⟨z, rfl, h⟩
/-! ways -/
theorem r_d {P : Prop} [Decidable P] (h1 : P → A) (h2 : ¬ P → B) : if decide P = true then A else B := by
  by_cases h : P
  · rw [decide_eq_true h, if_pos rfl]; exact h1 h
  · rw [decide_eq_false h, if_neg Bool.false_ne_true]; exact h2 h
theorem r_nd {P : Prop} [Decidable P] (h1 : ¬ P → A) (h2 : P → B) : if (!decide P) = true then A else B := by
  by_cases h : P
  · rw [decide_eq_true h]; exact iteF (h2 h)
  · rw [decide_eq_false h]; exact iteT (h1 h)
theorem r_b {b : Bool} (h1 : b = true → A) (h2 : b = false → B) : if b = true then A else B := by
  cases b with
  | true => exact iteT (h1 rfl)
  | false => exact iteF (h2 rfl)
theorem r_T {b : Bool} (hb : b = true) (h : A) : if b = true then A else B := by
  rw [if_pos hb]; exact h
theorem r_F {b : Bool} (hb : b = false) (h : B) : if b = true then A else B := by
  rw [hb]; exact iteF h
end
section
variable {n : L2.St → Hp → Prop} {r : VK} {b c : L2.St → Hp → Prop} {σ : L2.St} {H : Hp} {v : V}
theorem r_nx (h : n σ H) : (Ends.mk n r b c).nx σ H := h
theorem r_rt (h : r v H) : (Ends.mk n r b c).rt v H := h
theorem r_bk (h : b σ H) : (Ends.mk n r b c).bk σ H := h
theorem r_ct (h : c σ H) : (Ends.mk n r b c).ct σ H := h
end
/-- a for over a text's signs -/
theorem for_str {z : Str} {g : TG} {tb : TS} {D : Ends} {σ : L2.St} {H : Hp} (Pv : Nat → L2.St → Hp → Prop) (h0 : Pv 0 σ H)
    (hs : ∀ (i c : Nat) (σ : L2.St) (H : Hp), z.cps.toList[i]? = some c → Pv i σ H → g (.str ⟨#[c]⟩) σ H fun σ2 H2 => tb { D with nx := Pv (i + 1), ct := Pv (i + 1), bk := D.nx } σ2 H2) (hd : ∀ σ H, Pv z.length σ H → D.nx σ H) :
    ∃ W : Nat → Nat → L2.St → Hp → Prop, (∃ m, W 0 m σ H) ∧ ∀ i m σ H, W i m σ H → ((Its z).stop i H ∧ D.nx σ H) ∨ ((Its z).go i H ∧ ∃ N : L2.St → Hp → Prop, (∀ σ' H', N σ' H' → ∃ m', m' < m ∧ W (i + 1) m' σ' H') ∧
      ∀ x H', (Its z).yld i H x H' → g x σ H' fun σ2 H2 => tb { D with nx := N, ct := N, bk := D.nx } σ2 H2) := by
  refine ⟨fun i m σ H => m = z.length - i ∧ i ≤ z.length ∧ Pv i σ H, ⟨z.length, by simp, Nat.zero_le _, h0⟩, ?_⟩
  rintro i m σ H ⟨rfl, hi, p⟩
  by_cases h : i < z.length
  · refine .inr ⟨h, Pv (i + 1), fun σ' H' p' => ⟨z.length - (i + 1), by omega, rfl, h, p'⟩, ?_⟩
    rintro x H' ⟨rfl, c, hc, rfl⟩
    exact hs i c σ H' (by rw [Array.getElem?_toList]; exact hc) p
  · have e : i = z.length := by omega
    subst e
    exact .inl ⟨Nat.le_refl _, hd _ _ p⟩
theorem start_eq (N : List Str) (vs : List V) : start N vs = vs.map some ++ List.replicate (N.length - vs.length) none := rfl
end Hj
end
section
set_option Elab.async false
set_option linter.all false
set_option maxRecDepth 100000
set_option maxHeartbeats 2000000
namespace Hj
open PySem PySem.Spec L2
/-! ### the text by places -/
def top (i : Nat) : Stmt := PySem.Challenge.pw_hedgejoin_k95_whole_orders_read_and_writ.main.body.getD i (.Pass ⟨0, 0, 0, 0⟩)
abbrev s_BadName_init : Stmt := inClass (top 2) 0
abbrev s_UnknownLot_init : Stmt := inClass (top 3) 0
abbrev s_TooMany_init : Stmt := inClass (top 4) 0
abbrev s_BadText_init : Stmt := inClass (top 5) 0
abbrev s_BadSplit_init : Stmt := inClass (top 6) 0
abbrev s_BadRow_init : Stmt := inClass (top 7) 0
abbrev s_is_name : Stmt := top 12
abbrev s_OpenBlock_init : Stmt := inClass (top 18) 0
abbrev s_OpenBlock_add_statement : Stmt := inClass (top 18) 1
abbrev s_OpenBlock_closed_statement : Stmt := inClass (top 18) 2
abbrev s_OpenBlock_takes_else : Stmt := inClass (top 18) 3
abbrev s_OrderReader_init : Stmt := inClass (top 19) 0
abbrev s_OrderReader_peek_word : Stmt := inClass (top 19) 1
abbrev s_OrderReader_take_word : Stmt := inClass (top 19) 2
abbrev s_OrderReader_take_term : Stmt := inClass (top 19) 3
abbrev s_OrderReader_take_variable : Stmt := inClass (top 19) 4
abbrev s_OrderReader_take_plain_test : Stmt := inClass (top 19) 5
abbrev s_OrderReader_take_test : Stmt := inClass (top 19) 6
abbrev s_OrderReader_allowed_words : Stmt := inClass (top 19) 7
abbrev s_OrderReader_enter_block : Stmt := inClass (top 19) 8
abbrev s_OrderReader_leave_block : Stmt := inClass (top 19) 9
abbrev s_OrderReader_read_step : Stmt := inClass (top 19) 10
abbrev s_OrderReader_read_order : Stmt := inClass (top 19) 11
abbrev s_opposite_test : Stmt := top 20
abbrev s_parse_order : Stmt := top 21
abbrev s_words_of_test : Stmt := top 22
abbrev s_block_words : Stmt := top 23
abbrev s_statement_words : Stmt := top 24
abbrev s_order_words : Stmt := top 25
abbrev s_format_order : Stmt := top 26
abbrev s_bodies_of : Stmt := top 27
abbrev s_count_statements : Stmt := top 28
abbrev s_depth_of : Stmt := top 29
abbrev s_law_store : Stmt := top 31
abbrev s_law_mixed : Stmt := top 32
abbrev s_law_take : Stmt := top 33
abbrev s_law_number : Stmt := top 34
abbrev s_law_pick : Stmt := top 35
abbrev s_law_same : Stmt := top 36
abbrev s_law_name : Stmt := top 37
abbrev s_law_is_name : Stmt := top 38
abbrev s_law_unlike : Stmt := top 39
abbrev s_law_names : Stmt := top 40
abbrev s_law_term : Stmt := top 41
abbrev s_law_test : Stmt := top 42
abbrev s_law_statement : Stmt := top 43
abbrev s_law_order : Stmt := top 44
abbrev s_law_order_words : Stmt := top 45
abbrev s_law_test_words : Stmt := top 46
abbrev s_law_nest_text : Stmt := top 47
abbrev s_law_refusal : Stmt := top 48
abbrev s_law_stands : Stmt := top 49
abbrev s_law_waiting : Stmt := top 50
abbrev s_law_head : Stmt := top 51
abbrev s_law_closed_statement : Stmt := top 52
abbrev s_law_read : Stmt := top 53
abbrev s_law_text_read : Stmt := top 54
abbrev s_law_odd_words : Stmt := top 55
abbrev s_law_told : Stmt := top 56
abbrev s_law_written_right : Stmt := top 57
abbrev s_law_text_right : Stmt := top 58
abbrev s_law : Stmt := top 59

/-! ### constants of the module, by name -/
def sLET : Str := "abcdefghijklmnopqrstuvwxyz"
def sLAD : Str := "abcdefghijklmnopqrstuvwxyz0123456789"
theorem pe_gc {X : Cx} {x : Str} {pos : Pos} {v : V} (h : ∃ u, X.mg x = some u ∧ RelV v u) (hg : Gl X x) (hd : (x == ("__debug__" : Str)) = false := by decide) : PE X (.Name x pos) (tC v) := by
  obtain ⟨u, h1, h2⟩ := h
  exact pe_glob hg h1 h2 hd
abbrev cB (K : PySem.W.Frag) : Addr := He.ga K "OpenBlock"
abbrev cR (K : PySem.W.Frag) : Addr := He.ga K "OrderReader"
abbrev cBT (K : PySem.W.Frag) : Addr := He.ga K "BadText"
abbrev cTM (K : PySem.W.Frag) : Addr := He.ga K "TooMany"
abbrev cHE (K : PySem.W.Frag) : Addr := He.ga K "HedgeError"
abbrev fIn (K : PySem.W.Frag) (C : Addr) : Addr := He.ma K C "__init__"
/-- a function's code object, its cell -/
def codeAd (K : PySem.W.Frag) (f : Addr) : Addr := match K.lookup f with
  | some ⟨_, _, .func fd, _⟩ => (match fd.code with
    | .ref c => c
    | _ => 0)
  | _ => 0
def cellAd (K : PySem.W.Frag) (f : Addr) : Addr := match K.lookup f with
  | some ⟨_, _, .func fd, _⟩ => (match fd.closure with
    | [(_, c)] => c
    | _ => 0)
  | _ => 0
def sFile : Str := "/claim/cut.py"
/-- what the program's top has left -/
structure Txt (P : Program) (K : PySem.W.Frag) (mg : Str → Option Value) : Prop where
  zlen : mg "len" = none
  zmax : mg "max" = none
  zall : mg "all" = none
  zisinstance : mg "isinstance" = none
  ztuple : mg "tuple" = none
  zlist : mg "list" = none
  zint : mg "int" = none
  zstr : mg "str" = none
  zbool : mg "bool" = none
  zrange : mg "range" = none
  zValueError : mg "ValueError" = none
  gLETTERS : ∃ u, mg "LETTERS" = some u ∧ RelV (.str sLET) u
  gLETTERS_AND_DIGITS : ∃ u, mg "LETTERS_AND_DIGITS" = some u ∧ RelV (.str sLAD) u
  gLONGEST_NAME : ∃ u, mg "LONGEST_NAME" = some u ∧ RelV (.int 8) u
  gMOST_STATEMENTS : ∃ u, mg "MOST_STATEMENTS" = some u ∧ RelV (.int 12) u
  gMOST_DEPTH : ∃ u, mg "MOST_DEPTH" = some u ∧ RelV (.int 3) u
  gSTATEMENT_WORDS : ∃ u, mg "STATEMENT_WORDS" = some u ∧ RelV (.ref (He.ga K "STATEMENT_WORDS")) u
  gTEST_WORDS : ∃ u, mg "TEST_WORDS" = some u ∧ RelV (.ref (He.ga K "TEST_WORDS")) u
  sw : ∀ H : Hp, SqT K H (He.ga K "STATEMENT_WORDS") [.str kJoin, .str kClear, .str kIf, .str kWhile, .str kUntil, .str kEach]
  tw : ∀ H : Hp, SqT K H (He.ga K "TEST_WORDS") [.str kTog, .str kOpen]
  clB : Cls K (cB K)
  bW : NoAttr K (cB K) "block_word"
  bT : NoAttr K (cB K) "block_thing"
  bB : NoAttr K (cB K) "block_body"
  bO : NoAttr K (cB K) "block_other"
  bU : NoAttr K (cB K) "block_turned"
  clR : Cls K (cR K)
  rW : NoAttr K (cR K) "reader_words"
  rA : NoAttr K (cR K) "reader_at"
  rB : NoAttr K (cR K) "reader_blocks"
  rC : NoAttr K (cR K) "reader_count"
  rD : NoAttr K (cR K) "reader_depth"
  gBadText : mg "BadText" = some (.ref (cBT K))
  gTooMany : mg "TooMany" = some (.ref (cTM K))
  gHedgeError : mg "HedgeError" = some (.ref (cHE K))
  gBadSplit : mg "BadSplit" = some (.ref (He.ga K "BadSplit"))
  gBadRow : mg "BadRow" = some (.ref (He.ga K "BadRow"))
  gBadName : mg "BadName" = some (.ref (He.ga K "BadName"))
  gUnknownLot : mg "UnknownLot" = some (.ref (He.ga K "UnknownLot"))
  bt : PySem.HjX.ExT K mg (cBT K) (fIn K (cBT K)) (codeAd K (fIn K (cBT K))) (cellAd K (fIn K (cBT K))) sFile "BadText.__init__" (defArgs s_BadText_init) (defBody s_BadText_init) (defScope s_BadText_init)
  tm : PySem.HjX.ExT K mg (cTM K) (fIn K (cTM K)) (codeAd K (fIn K (cTM K))) (cellAd K (fIn K (cTM K))) sFile "TooMany.__init__" (defArgs s_TooMany_init) (defBody s_TooMany_init) (defScope s_TooMany_init)
  hfile : ((P.main.file : Str) == sFile) = true
  htop : (P.main.scope.names.lookup ("super" : Str)).isSome = false
  btN : PySem.W.findIn K (.ref (cBT K)) "place" = some none
  tmN : PySem.W.findIn K (.ref (cTM K)) "count" = some none
  tmL : PySem.W.findIn K (.ref (cTM K)) "limit" = some none
  btC : ExcC K (cBT K)
  tmC : ExcC K (cTM K)
  btF : XfC K (cBT K)
  tmF : XfC K (cTM K)
  btH : PySem.W.exmOne K (.ref (cBT K)) (.ref (cHE K)) = some true
  tmH : PySem.W.exmOne K (.ref (cTM K)) (.ref (cHE K)) = some true
  bt1 : PySem.W.kitOne K (.ref (cBT K)) (.ref (cBT K)) = some true
  bt2 : PySem.W.kitOne K (.ref (cBT K)) (.ref (cTM K)) = some false
  bt3 : PySem.W.kitOne K (.ref (cBT K)) (.ref (He.ga K "BadSplit")) = some false
  bt4 : PySem.W.kitOne K (.ref (cBT K)) (.ref (He.ga K "BadRow")) = some false
  bt5 : PySem.W.kitOne K (.ref (cBT K)) (.ref (He.ga K "BadName")) = some false
  bt6 : PySem.W.kitOne K (.ref (cBT K)) (.ref (He.ga K "UnknownLot")) = some false
  bt7 : PySem.W.kitOne K (.ref (cBT K)) (.type "ValueError") = some true
  tm1 : PySem.W.kitOne K (.ref (cTM K)) (.ref (cBT K)) = some false
  tm2 : PySem.W.kitOne K (.ref (cTM K)) (.ref (cTM K)) = some true
  tm3 : PySem.W.kitOne K (.ref (cTM K)) (.ref (He.ga K "BadSplit")) = some false
  tm4 : PySem.W.kitOne K (.ref (cTM K)) (.ref (He.ga K "BadRow")) = some false
  tm5 : PySem.W.kitOne K (.ref (cTM K)) (.ref (He.ga K "BadName")) = some false
  tm6 : PySem.W.kitOne K (.ref (cTM K)) (.ref (He.ga K "UnknownLot")) = some false
  tm7 : PySem.W.kitOne K (.ref (cTM K)) (.type "ValueError") = some true
end Hj
end
section
set_option Elab.async false
set_option linter.all false
set_option maxRecDepth 100000
set_option maxHeartbeats 8000000
namespace Hj
open PySem PySem.Spec L2
/-! ### what the head gives of the defs -/
/-- a def of the text, found by its name -/
structure Df (K : PySem.W.Frag) (mg : Str → Option Value) (x qual : Str) (st : Stmt) (ps : List Str) : Prop where
  ex : ∃ f fd, Fun K x qual st f fd ∧ mg x = some (.ref f) ∧ PySem.W.keepIn K (.ref f) = true ∧ Binds K fd ps []
structure Mf (K : PySem.W.Frag) (C : Addr) (m qual : Str) (st : Stmt) (ps : List Str) : Prop where
  ex : ∃ f fd, Fun K m qual st f fd ∧ Meth K C m f ∧ Binds K fd ps []
structure Nf (K : PySem.W.Frag) (mg : Str → Option Value) (x : Str) (C : Addr) (qual : Str) (st : Stmt) (ps : List Str) : Prop where
  ex : ∃ f fd, Fun K "__init__" qual st f fd ∧ Mk K C f ∧ mg x = some (.ref C) ∧ Binds K fd ps []
structure Defs (K : PySem.W.Frag) (mg : Str → Option Value) : Prop where
  d_is_name : Df K mg "is_name" "is_name" s_is_name ["text"]
  n_OpenBlock : Nf K mg "OpenBlock" (cB K) "OpenBlock.__init__" s_OpenBlock_init ["self", "word", "thing"]
  m_add_statement : Mf K (cB K) "add_statement" "OpenBlock.add_statement" s_OpenBlock_add_statement ["self", "statement"]
  m_closed_statement : Mf K (cB K) "closed_statement" "OpenBlock.closed_statement" s_OpenBlock_closed_statement ["self"]
  m_takes_else : Mf K (cB K) "takes_else" "OpenBlock.takes_else" s_OpenBlock_takes_else ["self"]
  n_OrderReader : Nf K mg "OrderReader" (cR K) "OrderReader.__init__" s_OrderReader_init ["self", "words"]
  m_peek_word : Mf K (cR K) "peek_word" "OrderReader.peek_word" s_OrderReader_peek_word ["self"]
  m_take_word : Mf K (cR K) "take_word" "OrderReader.take_word" s_OrderReader_take_word ["self", "allowed"]
  m_take_term : Mf K (cR K) "take_term" "OrderReader.take_term" s_OrderReader_take_term ["self"]
  m_take_variable : Mf K (cR K) "take_variable" "OrderReader.take_variable" s_OrderReader_take_variable ["self"]
  m_take_plain_test : Mf K (cR K) "take_plain_test" "OrderReader.take_plain_test" s_OrderReader_take_plain_test ["self"]
  m_take_test : Mf K (cR K) "take_test" "OrderReader.take_test" s_OrderReader_take_test ["self"]
  m_allowed_words : Mf K (cR K) "allowed_words" "OrderReader.allowed_words" s_OrderReader_allowed_words ["self"]
  m_enter_block : Mf K (cR K) "enter_block" "OrderReader.enter_block" s_OrderReader_enter_block ["self", "word"]
  m_leave_block : Mf K (cR K) "leave_block" "OrderReader.leave_block" s_OrderReader_leave_block ["self"]
  m_read_step : Mf K (cR K) "read_step" "OrderReader.read_step" s_OrderReader_read_step ["self"]
  m_read_order : Mf K (cR K) "read_order" "OrderReader.read_order" s_OrderReader_read_order ["self"]
  d_opposite_test : Df K mg "opposite_test" "opposite_test" s_opposite_test ["test"]
  d_parse_order : Df K mg "parse_order" "parse_order" s_parse_order ["text"]
  d_words_of_test : Df K mg "words_of_test" "words_of_test" s_words_of_test ["test"]
  d_block_words : Df K mg "block_words" "block_words" s_block_words ["head", "body", "other"]
  d_statement_words : Df K mg "statement_words" "statement_words" s_statement_words ["statement"]
  d_order_words : Df K mg "order_words" "order_words" s_order_words ["order"]
  d_format_order : Df K mg "format_order" "format_order" s_format_order ["order"]
  d_bodies_of : Df K mg "bodies_of" "bodies_of" s_bodies_of ["statement"]
  d_count_statements : Df K mg "count_statements" "count_statements" s_count_statements ["order"]
  d_depth_of : Df K mg "depth_of" "depth_of" s_depth_of ["order"]
  d_law_store : Df K mg "_law_store" "_law_store" s_law_store ["_law_script"]
  d_law_mixed : Df K mg "_law_mixed" "_law_mixed" s_law_mixed ["_law_cell", "_law_turn", "_law_seed"]
  d_law_take : Df K mg "_law_take" "_law_take" s_law_take ["_law_store_here", "_law_many"]
  d_law_number : Df K mg "_law_number" "_law_number" s_law_number ["_law_store_here", "_law_low", "_law_high"]
  d_law_pick : Df K mg "_law_pick" "_law_pick" s_law_pick ["_law_store_here", "_law_some"]
  d_law_same : Df K mg "_law_same" "_law_same" s_law_same ["_law_actual", "_law_expected"]
  d_law_name : Df K mg "_law_name" "_law_name" s_law_name ["_law_store_here"]
  d_law_is_name : Df K mg "_law_is_name" "_law_is_name" s_law_is_name ["_law_word"]
  d_law_unlike : Df K mg "_law_unlike" "_law_unlike" s_law_unlike ["_law_word", "_law_taken"]
  d_law_names : Df K mg "_law_names" "_law_names" s_law_names ["_law_store_here", "_law_many"]
  d_law_term : Df K mg "_law_term" "_law_term" s_law_term ["_law_store_here", "_law_lot_names", "_law_scope"]
  d_law_test : Df K mg "_law_test" "_law_test" s_law_test ["_law_store_here", "_law_lot_names", "_law_scope"]
  d_law_statement : Df K mg "_law_statement" "_law_statement" s_law_statement ["_law_store_here", "_law_lot_names", "_law_room", "_law_deep", "_law_scope"]
  d_law_order : Df K mg "_law_order" "_law_order" s_law_order ["_law_store_here", "_law_lot_names", "_law_room", "_law_deep", "_law_scope"]
  d_law_order_words : Df K mg "_law_order_words" "_law_order_words" s_law_order_words ["_law_store_here", "_law_some_order", "_law_loose"]
  d_law_test_words : Df K mg "_law_test_words" "_law_test_words" s_law_test_words ["_law_some_test"]
  d_law_nest_text : Df K mg "_law_nest_text" "_law_nest_text" s_law_nest_text ["_law_many", "_law_deep"]
  d_law_refusal : Df K mg "_law_refusal" "_law_refusal" s_law_refusal ["_law_error"]
  d_law_stands : Df K mg "_law_stands" "_law_stands" s_law_stands ["_law_kind", "_law_word", "_law_scope"]
  d_law_waiting : Df K mg "_law_waiting" "_law_waiting" s_law_waiting ["_law_waiting_here", "_law_word"]
  d_law_head : Df K mg "_law_head" "_law_head" s_law_head ["_law_word"]
  d_law_closed_statement : Df K mg "_law_closed_statement" "_law_closed_statement" s_law_closed_statement ["_law_frame"]
  d_law_read : Df K mg "_law_read" "_law_read" s_law_read ["_law_words"]
  d_law_text_read : Df K mg "_law_text_read" "_law_text_read" s_law_text_read ["_law_some_text"]
  d_law_odd_words : Df K mg "_law_odd_words" "_law_odd_words" s_law_odd_words ["_law_store_here", "_law_lot_names", "_law_words"]
  d_law_told : Df K mg "_law_told" "_law_told" s_law_told ["_law_some_text"]
  d_law_written_right : Df K mg "_law_written_right" "_law_written_right" s_law_written_right ["_law_store_here", "_law_some_order", "_law_sizes"]
  d_law_text_right : Df K mg "_law_text_right" "_law_text_right" s_law_text_right ["_law_store_here", "_law_some_text"]
  d_law : Df K mg "law" "law" s_law ["_law_script"]
def spLaw (K : PySem.W.Frag) : Sp := fun vs H Q _ => ∃ (a : Addr) (ns : List Int), vs = [.ref a] ∧ SqL K H a (ns.map V.int) ∧ ns.length ≤ 1000 ∧ ∀ H' : Hp, Q (.bl true) H'
end Hj
end
section
set_option Elab.async false
set_option linter.all false
set_option maxRecDepth 100000
set_option maxHeartbeats 2000000
namespace Hj
open PySem PySem.Spec PyProof.Rows L2
/-! ### the head: what is looked at -/
def clsB (K : PySem.W.Frag) (C : Addr) : Bool := match K.lookup C with
  | some ⟨.type ty, _, .cls cd, sl⟩ => decide (ty = "type") && ((match cd.mro with
    | .ref C' :: bm => decide (C' = C) && PySem.HandSPX.refsVE bm
    | _ => false) && ((match sl.toList with
    | [_, _, _, _, some (.builtin n), _] => decide (n = "ValueError.__new__")
    | _ => false) && (cd.hasDict && !cd.hasDel)))
  | _ => false
theorem clsB_ok {K : PySem.W.Frag} {C : Addr} (h : clsB K C = true) : ∃ nm q N bs bm sn sub ab col dd k0 k1 k2 k3 k5, K.lookup C = some (excClassObj nm q C N bs bm true sn sub ab col dd k0 k1 k2 k3 k5 "ValueError.__new__") ∧ PySem.HandSPX.refsVE bm = true := by
  unfold clsB at h
  cases q : K.lookup C with
  | none => rw [q] at h; cases h
  | some o =>
    obtain ⟨oc, od, dt, sl⟩ := o
    rw [q] at h
    cases oc with
    | type ty =>
      cases dt with
      | cls cd =>
        obtain ⟨nm, bs, mro, N, qn, hd, sn, sub, ab, col, del⟩ := cd
        simp only [Bool.and_eq_true] at h
        obtain ⟨h1, h2, h3, h4, h5⟩ := h
        have e1 : ty = "type" := of_decide_eq_true h1
        subst e1
        cases mro with
        | nil => cases h2
        | cons m bm =>
          cases m with
          | ref C' =>
            simp only [Bool.and_eq_true] at h2
            have e2 : C' = C := of_decide_eq_true h2.1
            subst e2
            obtain ⟨L⟩ := sl
            have e4 : hd = true := h4
            have e5 : del = false := by simpa using h5
            subst e4 e5
            simp only at h3
            split at h3
            · next k0 k1 k2 k3 n k5 =>
              have e6 : n = "ValueError.__new__" := of_decide_eq_true h3
              subst e6
              exact ⟨nm, qn, N, bs, bm, sn, sub, ab, col, od, k0, k1, k2, k3, k5, rfl, h2.2⟩
            · cases h3
          | _ => cases h2
      | _ => cases h
    | _ => cases dt <;> cases h
abbrev FnI : Type := Option (Str × Str × Arguments × FuncBody × Scope × Addr × Addr)
def finW (K : PySem.W.Frag) (C : Addr) : FnI := match K.lookup (fIn K C) with
  | some ⟨_, _, .func fd, _⟩ => some (fd.name, fd.qualname, fd.params, fd.body, fd.scope, fd.globals, fd.builtins)
  | _ => none
def finB (K : PySem.W.Frag) (C : Addr) (qual : Str) : Bool := match K.lookup (fIn K C) with
  | some ⟨_, _, .func fd, _⟩ => (match fd.closure with
    | [(x, _)] => decide (x = "__class__")
    | _ => false) && ((match fd.code with
    | .ref _ => true
    | _ => false) && ((match fd.defaults with
    | .none => true
    | _ => false) && PySem.W.codeIn K fd.code qual))
  | _ => false
theorem fin_ok {K : PySem.W.Frag} {C : Addr} {qual : Str} {ar : Arguments} {body : List Stmt} {sc : Scope} (h : finB K C qual = true) (e : finW K C = (some (("__init__" : Str), qual, ar, FuncBody.stmts body, sc, mainGlobals, builtinsNs) : FnI)) :
    ∃ oc od kV doc pm an ct osl, K.lookup (fIn K C) = some ⟨oc, od, .func (PySem.W.ksFn "__init__" qual ar body sc .none kV doc pm an (.ref (codeAd K (fIn K C))) ct (cellAd K (fIn K C))), osl⟩ ∧ PySem.W.codeIn K (.ref (codeAd K (fIn K C))) qual = true := by
  unfold finB at h
  unfold finW at e
  unfold codeAd cellAd
  cases q : K.lookup (fIn K C) with
  | none => rw [q] at h; cases h
  | some o =>
    obtain ⟨oc, od, dt, sl⟩ := o
    rw [q] at h e
    cases dt with
    | func fd =>
      obtain ⟨n1, n2, n3, n4, n5, n6, n7, n8, n9, n10, n11, n12, n13, n14, n15⟩ := fd
      have e2 : (some (n1, n2, n3, n4, n5, n6, n15) : FnI) = (some (("__init__" : Str), qual, ar, FuncBody.stmts body, sc, mainGlobals, builtinsNs) : FnI) := e
      simp only [Option.some.injEq, Prod.mk.injEq] at e2
      obtain ⟨h1, h2, h3, h4, h5, h6, h7⟩ := e2
      subst h1 h2 h3 h4 h5 h6 h7
      simp only [Bool.and_eq_true] at h
      obtain ⟨g1, g2, g3, g4⟩ := h
      cases n7 with
      | nil => cases g1
      | cons x r =>
        obtain ⟨x1, x2⟩ := x
        cases r with
        | cons y r => cases g1
        | nil =>
          have ex : x1 = "__class__" := of_decide_eq_true g1
          subst ex
          cases n13 with
          | ref c =>
            cases n8 with
            | none => exact ⟨oc, od, n9, n10, n11, n12, n14, sl, rfl, g4⟩
            | _ => cases g3
          | _ => cases g2
    | _ => cases h
def codB (K : PySem.W.Frag) (a : Addr) : Bool := match K.lookup a with
  | some ⟨_, _, .fields vs, _⟩ => (match (vs[2]? : Option Value) with
    | some (Value.str z _) => decide (z = sFile)
    | _ => false)
  | _ => false
theorem cod_ok {K : PySem.W.Frag} {a : Addr} (h : codB K a = true) : ∃ ccl cdd vs ccs tf, K.lookup a = some ⟨ccl, cdd, .fields vs, ccs⟩ ∧ vs[2]? = some (.str sFile tf) := by
  unfold codB at h
  cases q : K.lookup a with
  | none => rw [q] at h; cases h
  | some o =>
    obtain ⟨oc, od, dt, sl⟩ := o
    rw [q] at h
    cases dt with
    | fields vs =>
      simp only at h
      split at h
      · next z t hz =>
        have ez : z = sFile := of_decide_eq_true h
        subst ez
        exact ⟨oc, od, vs, sl, t, rfl, hz⟩
      · cases h
    | _ => cases h
def celB (K : PySem.W.Frag) (a C : Addr) : Bool := match K.lookup a with
  | some ⟨_, _, .cell (some (.ref c)), _⟩ => decide (c = C)
  | _ => false
theorem cel_ok {K : PySem.W.Frag} {a C : Addr} (h : celB K a C = true) : ∃ cl cld csl, K.lookup a = some ⟨cl, cld, .cell (some (.ref C)), csl⟩ := by
  unfold celB at h
  cases q : K.lookup a with
  | none => rw [q] at h; cases h
  | some o =>
    obtain ⟨oc, od, dt, sl⟩ := o
    rw [q] at h
    cases dt with
    | cell v =>
      cases v with
      | none => cases h
      | some v =>
        cases v with
        | ref c =>
          have e : c = C := of_decide_eq_true h
          subst e
          exact ⟨oc, od, sl, rfl⟩
        | _ => cases h
    | _ => cases h
def extL (K : PySem.W.Frag) (C : Addr) (qual : Str) : List Bool := [
  clsB K C, finB K C qual,
  decide (PySem.W.findIn K (.ref C) "__setattr__" = some (some (.builtin "object.__setattr__"))),
  decide (PySem.W.findIn K (.ref C) "__init__" = some (some (.ref (fIn K C)))),
  decide (PySem.W.typeIn K (.ref (fIn K C)) = some (.type "function")),
  PySem.W.keepIn K (.ref C),
  decide (PySem.W.subIn K (.ref C) (.type "BaseException") = some true),
  decide (PySem.W.subIn K (.ref C) (.type "ValueError") = some true),
  decide (PySem.W.typeIn K (.ref C) = some (.type "type")),
  PySem.W.excInitIn K C PySem.HandSPX.veTail "ValueError.__new__",
  decide (PySem.W.ks_superIn K C C "__init__" = some (some (.builtin "ValueError.__init__"))),
  decide (PySem.W.nsIn K cStatics "thirdparty.any" = some none),
  codB K (codeAd K (fIn K C)), celB K (cellAd K (fIn K C)) C,
  decide (PySem.W.mroIn K C (.ref C) = some true)]
theorem ext_ok {K : PySem.W.Frag} {mg : Str → Option Value} {C : Addr} {qual : Str} {ar : Arguments} {body : List Stmt} {sc : Scope} (h : (extL K C qual).all (fun b => b) = true) (e : finW K C = (some (("__init__" : Str), qual, ar, FuncBody.stmts body, sc, mainGlobals, builtinsNs) : FnI)) (hs : mg "super" = none) :
    PySem.HjX.ExT K mg C (fIn K C) (codeAd K (fIn K C)) (cellAd K (fIn K C)) sFile qual ar body sc := by
  simp only [extL, List.all_cons, List.all_nil, Bool.and_eq_true, decide_eq_true_eq, and_true] at h
  obtain ⟨h1, h2, h3, h4, h5, h6, h7, h8, h9, h10, h11, h12, h13, h14, h15⟩ := h
  exact { cls := clsB_ok h1, sa := h3, iC := h4, tC := h5, kC := h6, exC := h7, veC := h8, tyC := h9, qI := h10, sup := h11, opq := h12, cod := cod_ok h13, cel := cel_ok h14, mro := h15, sp0 := hs, fn := fin_ok h2 e }
def excL (K : PySem.W.Frag) (D : Addr) : List Bool := [
  decide (PySem.W.findIn K (.ref D) "__getattribute__" = some (some (.builtin "BaseException.__getattribute__"))),
  decide (PySem.W.findIn K (.ref D) "__getattr__" = some none),
  decide (PySem.W.subIn K (.ref D) (.type "BaseException") = some true), PySem.W.hasDictIn K D,
  decide (PySem.W.findIn K (.ref D) "__class__" = some (some (.builtin "object.__class__"))),
  decide (PySem.W.specialIn K (.builtin "object.__class__") "__get__" = some (some (.builtin "getset_descriptor.__get__"))),
  decide (PySem.W.takesIn K (.builtin "object.__class__") = some true),
  decide (PySem.W.mroIn K D (.type "object") = some true)]
theorem exc_ok {K : PySem.W.Frag} {D : Addr} (h : (excL K D).all (fun b => b) = true) : ExcC K D ∧ XfC K D := by
  simp only [excL, List.all_cons, List.all_nil, Bool.and_eq_true, decide_eq_true_eq, and_true] at h
  obtain ⟨h1, h2, h3, h4, h5, h6, h7, h8⟩ := h
  exact ⟨⟨h1, h2, h3, h4, h5, h6, h7, h8⟩, ⟨h1, h2, h3, h4⟩⟩
def kits (K : PySem.W.Frag) (C : Addr) (a b : Bool) : List Bool := [
  decide (PySem.W.exmOne K (.ref C) (.ref (cHE K)) = some true),
  decide (PySem.W.kitOne K (.ref C) (.ref (cBT K)) = some a), decide (PySem.W.kitOne K (.ref C) (.ref (cTM K)) = some b),
  decide (PySem.W.kitOne K (.ref C) (.ref (He.ga K "BadSplit")) = some false), decide (PySem.W.kitOne K (.ref C) (.ref (He.ga K "BadRow")) = some false),
  decide (PySem.W.kitOne K (.ref C) (.ref (He.ga K "BadName")) = some false), decide (PySem.W.kitOne K (.ref C) (.ref (He.ga K "UnknownLot")) = some false),
  decide (PySem.W.kitOne K (.ref C) (.type "ValueError") = some true)]
theorem kits_ok {K : PySem.W.Frag} {C : Addr} {a b : Bool} (h : (kits K C a b).all (fun b => b) = true) : PySem.W.exmOne K (.ref C) (.ref (cHE K)) = some true ∧ PySem.W.kitOne K (.ref C) (.ref (cBT K)) = some a ∧ PySem.W.kitOne K (.ref C) (.ref (cTM K)) = some b ∧ PySem.W.kitOne K (.ref C) (.ref (He.ga K "BadSplit")) = some false ∧
    PySem.W.kitOne K (.ref C) (.ref (He.ga K "BadRow")) = some false ∧ PySem.W.kitOne K (.ref C) (.ref (He.ga K "BadName")) = some false ∧ PySem.W.kitOne K (.ref C) (.ref (He.ga K "UnknownLot")) = some false ∧ PySem.W.kitOne K (.ref C) (.type "ValueError") = some true := by
  simp only [kits, List.all_cons, List.all_nil, Bool.and_eq_true, decide_eq_true_eq, and_true] at h
  exact h
def moreL (K : PySem.W.Frag) : List (List Bool) := [extL K (cBT K) "BadText.__init__", extL K (cTM K) "TooMany.__init__", excL K (cBT K), excL K (cTM K), kits K (cBT K) true false, kits K (cTM K) false true,
  [He.tupB K "STATEMENT_WORDS" [.str kJoin, .str kClear, .str kIf, .str kWhile, .str kUntil, .str kEach], He.tupB K "TEST_WORDS" [.str kTog, .str kOpen]]]
def moreB (K : PySem.W.Frag) : Bool := (moreL K).all fun l => l.all fun b => b
/-! ### the Hook -/
abbrev AlX : Type := Bool × (List He.FnW × (FnI × FnI))
def obsX (fa : List He.Fa) (fn : List He.DefD) (K : PySem.W.Frag) : AlX := ((fa.all fun f => f.ok K) && ((fn.all fun d => d.ok K) && moreB K), fn.map fun d => He.fnW K d.at_, finW K (cBT K), finW K (cTM K))
def iBT : FnI := some ("__init__", "BadText.__init__", defArgs s_BadText_init, .stmts (defBody s_BadText_init), defScope s_BadText_init, mainGlobals, builtinsNs)
def iTM : FnI := some ("__init__", "TooMany.__init__", defArgs s_TooMany_init, .stmts (defBody s_TooMany_init), defScope s_TooMany_init, mainGlobals, builtinsNs)
def valX (fn : List He.DefD) : AlX := (true, fn.map He.DefD.val, iBT, iTM)
def SaysX (fa : List He.Fa) (fn : List He.DefD) (K : PySem.W.Frag) : Prop := obsX fa fn K = valX fn
def asX (g : Addr → Option Obj) (n : Nat) : List Addr := He.asD g n ++ [cStatics]
def obsXG (n : Nat) (fa : List He.Fa) (fn : List He.DefD) (g : Addr → Option Obj) : AlX := obsX fa fn (He.frG g (asX g n))
def hookX (n : Nat) (fa : List He.Fa) (fn : List He.DefD) : PySem.W.Hook where
  α := AlX
  obs := fun s => obsXG n fa fn s.heap.get?
  val := fun _ => valX fn
  says := fun _ h => ∃ K : PySem.W.Frag, K.In h ∧ SaysX fa fn K
  of := fun _ _ e => ⟨_, He.frG_in, e⟩
  keeps := fun _ _ _ ⟨K, hK, c⟩ k => ⟨K, PySem.W.Frag.In.keeps hK k, c⟩
theorem obsXG_eq {n : Nat} {fa : List He.Fa} {fn : List He.DefD} {g : Addr → Option Obj} {s : Shared} (h : ∀ a, g a = s.heap.get? a) : obsXG n fa fn g = (hookX n fa fn).obs s := by
  have e : g = s.heap.get? := funext h
  rw [e] <;> rfl
section
variable {fa : List He.Fa} {fn : List He.DefD} {K : PySem.W.Frag}
theorem SaysX.b (c : SaysX fa fn K) : ((fa.all fun f => f.ok K) && ((fn.all fun d => d.ok K) && moreB K)) = true := congrArg (fun z : AlX => z.1) c
theorem SaysX.fact (c : SaysX fa fn K) {f : He.Fa} (h : f ∈ fa) : f.ok K = true := by
  have c1 := (Bool.and_eq_true_iff.mp c.b).1
  exact List.all_eq_true.mp c1 f h
theorem SaysX.more (c : SaysX fa fn K) : moreB K = true := (Bool.and_eq_true_iff.mp (Bool.and_eq_true_iff.mp c.b).2).2
theorem SaysX.def_ (c : SaysX fa fn K) (i : Nat) {d : He.DefD} (h : fn[i]? = some d) : ∃ fd, FunD K d.name d.qual d.params d.body d.scope (d.dvs K) (d.kws K) (He.fAd K d.at_) fd := by
  have c2 := (Bool.and_eq_true_iff.mp (Bool.and_eq_true_iff.mp c.b).2).1
  have e : fn.map (fun d => He.fnW K d.at_) = fn.map He.DefD.val := congrArg (fun z : AlX => z.2.1) c
  have e2 : (fn.map fun d => He.fnW K d.at_)[i]? = (fn.map He.DefD.val)[i]? := by rw [e]
  rw [List.getElem?_map, List.getElem?_map, h] at e2
  exact He.DefD.funD (Option.some.inj e2) (List.all_eq_true.mp c2 d (List.mem_of_getElem? h))
theorem SaysX.bt (c : SaysX fa fn K) : finW K (cBT K) = iBT := congrArg (fun z : AlX => z.2.2.1) c
theorem SaysX.tm (c : SaysX fa fn K) : finW K (cTM K) = iTM := congrArg (fun z : AlX => z.2.2.2) c
end
end Hj
end
section
set_option Elab.async false
set_option linter.all false
set_option maxRecDepth 100000
set_option maxHeartbeats 0
namespace Hj
open PySem PySem.Spec PyProof.Rows L2
/-! ### the head, run -/
def fn1 : List He.DefD := [
  ⟨("is_name", none), "is_name", "is_name", defArgs s_is_name, defBody s_is_name, defScope s_is_name, [], []⟩,
  ⟨("OpenBlock", some "__init__"), "__init__", "OpenBlock.__init__", defArgs s_OpenBlock_init, defBody s_OpenBlock_init, defScope s_OpenBlock_init, [], []⟩,
  ⟨("OpenBlock", some "add_statement"), "add_statement", "OpenBlock.add_statement", defArgs s_OpenBlock_add_statement, defBody s_OpenBlock_add_statement, defScope s_OpenBlock_add_statement, [], []⟩,
  ⟨("OpenBlock", some "closed_statement"), "closed_statement", "OpenBlock.closed_statement", defArgs s_OpenBlock_closed_statement, defBody s_OpenBlock_closed_statement, defScope s_OpenBlock_closed_statement, [], []⟩,
  ⟨("OpenBlock", some "takes_else"), "takes_else", "OpenBlock.takes_else", defArgs s_OpenBlock_takes_else, defBody s_OpenBlock_takes_else, defScope s_OpenBlock_takes_else, [], []⟩,
  ⟨("OrderReader", some "__init__"), "__init__", "OrderReader.__init__", defArgs s_OrderReader_init, defBody s_OrderReader_init, defScope s_OrderReader_init, [], []⟩,
  ⟨("OrderReader", some "peek_word"), "peek_word", "OrderReader.peek_word", defArgs s_OrderReader_peek_word, defBody s_OrderReader_peek_word, defScope s_OrderReader_peek_word, [], []⟩,
  ⟨("OrderReader", some "take_word"), "take_word", "OrderReader.take_word", defArgs s_OrderReader_take_word, defBody s_OrderReader_take_word, defScope s_OrderReader_take_word, [], []⟩,
  ⟨("OrderReader", some "take_term"), "take_term", "OrderReader.take_term", defArgs s_OrderReader_take_term, defBody s_OrderReader_take_term, defScope s_OrderReader_take_term, [], []⟩,
  ⟨("OrderReader", some "take_variable"), "take_variable", "OrderReader.take_variable", defArgs s_OrderReader_take_variable, defBody s_OrderReader_take_variable, defScope s_OrderReader_take_variable, [], []⟩,
  ⟨("OrderReader", some "take_plain_test"), "take_plain_test", "OrderReader.take_plain_test", defArgs s_OrderReader_take_plain_test, defBody s_OrderReader_take_plain_test, defScope s_OrderReader_take_plain_test, [], []⟩,
  ⟨("OrderReader", some "take_test"), "take_test", "OrderReader.take_test", defArgs s_OrderReader_take_test, defBody s_OrderReader_take_test, defScope s_OrderReader_take_test, [], []⟩,
  ⟨("OrderReader", some "allowed_words"), "allowed_words", "OrderReader.allowed_words", defArgs s_OrderReader_allowed_words, defBody s_OrderReader_allowed_words, defScope s_OrderReader_allowed_words, [], []⟩,
  ⟨("OrderReader", some "enter_block"), "enter_block", "OrderReader.enter_block", defArgs s_OrderReader_enter_block, defBody s_OrderReader_enter_block, defScope s_OrderReader_enter_block, [], []⟩,
  ⟨("OrderReader", some "leave_block"), "leave_block", "OrderReader.leave_block", defArgs s_OrderReader_leave_block, defBody s_OrderReader_leave_block, defScope s_OrderReader_leave_block, [], []⟩,
  ⟨("OrderReader", some "read_step"), "read_step", "OrderReader.read_step", defArgs s_OrderReader_read_step, defBody s_OrderReader_read_step, defScope s_OrderReader_read_step, [], []⟩,
  ⟨("OrderReader", some "read_order"), "read_order", "OrderReader.read_order", defArgs s_OrderReader_read_order, defBody s_OrderReader_read_order, defScope s_OrderReader_read_order, [], []⟩,
  ⟨("opposite_test", none), "opposite_test", "opposite_test", defArgs s_opposite_test, defBody s_opposite_test, defScope s_opposite_test, [], []⟩,
  ⟨("parse_order", none), "parse_order", "parse_order", defArgs s_parse_order, defBody s_parse_order, defScope s_parse_order, [], []⟩,
  ⟨("words_of_test", none), "words_of_test", "words_of_test", defArgs s_words_of_test, defBody s_words_of_test, defScope s_words_of_test, [], []⟩]
def fn2 : List He.DefD := [
  ⟨("block_words", none), "block_words", "block_words", defArgs s_block_words, defBody s_block_words, defScope s_block_words, [], []⟩,
  ⟨("statement_words", none), "statement_words", "statement_words", defArgs s_statement_words, defBody s_statement_words, defScope s_statement_words, [], []⟩,
  ⟨("order_words", none), "order_words", "order_words", defArgs s_order_words, defBody s_order_words, defScope s_order_words, [], []⟩,
  ⟨("format_order", none), "format_order", "format_order", defArgs s_format_order, defBody s_format_order, defScope s_format_order, [], []⟩,
  ⟨("bodies_of", none), "bodies_of", "bodies_of", defArgs s_bodies_of, defBody s_bodies_of, defScope s_bodies_of, [], []⟩,
  ⟨("count_statements", none), "count_statements", "count_statements", defArgs s_count_statements, defBody s_count_statements, defScope s_count_statements, [], []⟩,
  ⟨("depth_of", none), "depth_of", "depth_of", defArgs s_depth_of, defBody s_depth_of, defScope s_depth_of, [], []⟩,
  ⟨("_law_store", none), "_law_store", "_law_store", defArgs s_law_store, defBody s_law_store, defScope s_law_store, [], []⟩,
  ⟨("_law_mixed", none), "_law_mixed", "_law_mixed", defArgs s_law_mixed, defBody s_law_mixed, defScope s_law_mixed, [], []⟩,
  ⟨("_law_take", none), "_law_take", "_law_take", defArgs s_law_take, defBody s_law_take, defScope s_law_take, [], []⟩,
  ⟨("_law_number", none), "_law_number", "_law_number", defArgs s_law_number, defBody s_law_number, defScope s_law_number, [], []⟩,
  ⟨("_law_pick", none), "_law_pick", "_law_pick", defArgs s_law_pick, defBody s_law_pick, defScope s_law_pick, [], []⟩,
  ⟨("_law_same", none), "_law_same", "_law_same", defArgs s_law_same, defBody s_law_same, defScope s_law_same, [], []⟩,
  ⟨("_law_name", none), "_law_name", "_law_name", defArgs s_law_name, defBody s_law_name, defScope s_law_name, [], []⟩,
  ⟨("_law_is_name", none), "_law_is_name", "_law_is_name", defArgs s_law_is_name, defBody s_law_is_name, defScope s_law_is_name, [], []⟩,
  ⟨("_law_unlike", none), "_law_unlike", "_law_unlike", defArgs s_law_unlike, defBody s_law_unlike, defScope s_law_unlike, [], []⟩,
  ⟨("_law_names", none), "_law_names", "_law_names", defArgs s_law_names, defBody s_law_names, defScope s_law_names, [], []⟩,
  ⟨("_law_term", none), "_law_term", "_law_term", defArgs s_law_term, defBody s_law_term, defScope s_law_term, [], []⟩,
  ⟨("_law_test", none), "_law_test", "_law_test", defArgs s_law_test, defBody s_law_test, defScope s_law_test, [], []⟩,
  ⟨("_law_statement", none), "_law_statement", "_law_statement", defArgs s_law_statement, defBody s_law_statement, defScope s_law_statement, [], []⟩]
def fn3 : List He.DefD := [
  ⟨("_law_order", none), "_law_order", "_law_order", defArgs s_law_order, defBody s_law_order, defScope s_law_order, [], []⟩,
  ⟨("_law_order_words", none), "_law_order_words", "_law_order_words", defArgs s_law_order_words, defBody s_law_order_words, defScope s_law_order_words, [], []⟩,
  ⟨("_law_test_words", none), "_law_test_words", "_law_test_words", defArgs s_law_test_words, defBody s_law_test_words, defScope s_law_test_words, [], []⟩,
  ⟨("_law_nest_text", none), "_law_nest_text", "_law_nest_text", defArgs s_law_nest_text, defBody s_law_nest_text, defScope s_law_nest_text, [], []⟩,
  ⟨("_law_refusal", none), "_law_refusal", "_law_refusal", defArgs s_law_refusal, defBody s_law_refusal, defScope s_law_refusal, [], []⟩,
  ⟨("_law_stands", none), "_law_stands", "_law_stands", defArgs s_law_stands, defBody s_law_stands, defScope s_law_stands, [], []⟩,
  ⟨("_law_waiting", none), "_law_waiting", "_law_waiting", defArgs s_law_waiting, defBody s_law_waiting, defScope s_law_waiting, [], []⟩,
  ⟨("_law_head", none), "_law_head", "_law_head", defArgs s_law_head, defBody s_law_head, defScope s_law_head, [], []⟩,
  ⟨("_law_closed_statement", none), "_law_closed_statement", "_law_closed_statement", defArgs s_law_closed_statement, defBody s_law_closed_statement, defScope s_law_closed_statement, [], []⟩,
  ⟨("_law_read", none), "_law_read", "_law_read", defArgs s_law_read, defBody s_law_read, defScope s_law_read, [], []⟩,
  ⟨("_law_text_read", none), "_law_text_read", "_law_text_read", defArgs s_law_text_read, defBody s_law_text_read, defScope s_law_text_read, [], []⟩,
  ⟨("_law_odd_words", none), "_law_odd_words", "_law_odd_words", defArgs s_law_odd_words, defBody s_law_odd_words, defScope s_law_odd_words, [], []⟩,
  ⟨("_law_told", none), "_law_told", "_law_told", defArgs s_law_told, defBody s_law_told, defScope s_law_told, [], []⟩,
  ⟨("_law_written_right", none), "_law_written_right", "_law_written_right", defArgs s_law_written_right, defBody s_law_written_right, defScope s_law_written_right, [], []⟩,
  ⟨("_law_text_right", none), "_law_text_right", "_law_text_right", defArgs s_law_text_right, defBody s_law_text_right, defScope s_law_text_right, [], []⟩,
  ⟨("law", none), "law", "law", defArgs s_law, defBody s_law, defScope s_law, [], []⟩]
def fn : List He.DefD := fn1 ++ (fn2 ++ fn3)
def nm1 : List PySem.Str := ["HedgeError", "BadName", "UnknownLot", "TooMany", "BadText", "BadSplit", "BadRow", "LETTERS", "LETTERS_AND_DIGITS", "LONGEST_NAME", "is_name", "MOST_STATEMENTS", "MOST_DEPTH", "STATEMENT_WORDS", "TEST_WORDS", "OpenBlock", "OrderReader", "opposite_test", "parse_order", "words_of_test", "block_words", "statement_words", "order_words", "format_order", "bodies_of", "count_statements", "depth_of", "_law_store", "_law_mixed", "_law_take"]
def nm2 : List PySem.Str := ["_law_number", "_law_pick", "_law_same", "_law_name", "_law_is_name", "_law_unlike", "_law_names", "_law_term", "_law_test", "_law_statement", "_law_order", "_law_order_words", "_law_test_words", "_law_nest_text", "_law_refusal", "_law_stands", "_law_waiting", "_law_head", "_law_closed_statement", "_law_read", "_law_text_read", "_law_odd_words", "_law_told", "_law_written_right", "_law_text_right"]
def names : List PySem.Str := nm1 ++ nm2
def fa1 : List He.Fa := [.glo "is_name", .glo "opposite_test", .glo "parse_order", .glo "words_of_test", .glo "block_words", .glo "statement_words", .glo "order_words", .glo "format_order", .glo "bodies_of", .glo "count_statements", .glo "depth_of", .glo "_law_store", .glo "_law_mixed", .glo "_law_take", .glo "_law_number", .glo "_law_pick", .glo "_law_same", .glo "_law_name", .glo "_law_is_name", .glo "_law_unlike", .glo "_law_names", .glo "_law_term", .glo "_law_test", .glo "_law_statement", .glo "_law_order", .glo "_law_order_words", .glo "_law_test_words", .glo "_law_nest_text", .glo "_law_refusal", .glo "_law_stands", .glo "_law_waiting", .glo "_law_head", .glo "_law_closed_statement", .glo "_law_read", .glo "_law_text_read", .glo "_law_odd_words", .glo "_law_told", .glo "_law_written_right", .glo "_law_text_right", .glo "law", .glo "OpenBlock", .glo "OrderReader", .glo "BadText", .glo "TooMany", .glo "HedgeError", .glo "BadSplit", .glo "BadRow", .glo "BadName", .glo "UnknownLot", .glo "STATEMENT_WORDS", .glo "TEST_WORDS"]
def fa2 : List He.Fa := [.free "len", .free "max", .free "all", .free "isinstance", .free "tuple", .free "list", .free "int", .free "str", .free "bool", .free "range", .free "ValueError", .free "super", .str "LETTERS" "abcdefghijklmnopqrstuvwxyz", .str "LETTERS_AND_DIGITS" "abcdefghijklmnopqrstuvwxyz0123456789", .int "LONGEST_NAME" 8, .int "MOST_STATEMENTS" 12, .int "MOST_DEPTH" 3, .cls "OpenBlock", .cls "OrderReader", .mkr "OpenBlock", .mkr "OrderReader", .noat "OpenBlock" "block_word", .noat "OpenBlock" "block_thing", .noat "OpenBlock" "block_body", .noat "OpenBlock" "block_other", .noat "OpenBlock" "block_turned", .noat "OrderReader" "reader_words", .noat "OrderReader" "reader_at", .noat "OrderReader" "reader_blocks", .noat "OrderReader" "reader_count", .noat "OrderReader" "reader_depth", .noat "BadText" "place", .noat "TooMany" "count", .noat "TooMany" "limit"]
def fa3 : List He.Fa := [.meth "OpenBlock" "add_statement", .meth "OpenBlock" "closed_statement", .meth "OpenBlock" "takes_else", .meth "OrderReader" "peek_word", .meth "OrderReader" "take_word", .meth "OrderReader" "take_term", .meth "OrderReader" "take_variable", .meth "OrderReader" "take_plain_test", .meth "OrderReader" "take_test", .meth "OrderReader" "allowed_words", .meth "OrderReader" "enter_block", .meth "OrderReader" "leave_block", .meth "OrderReader" "read_step", .meth "OrderReader" "read_order"]
def fa : List He.Fa := fa1 ++ (fa2 ++ fa3)
abbrev R : PySem.W.OpenRow := PySem.W.OpenLaw.row PySem.Challenge.rw_hedgejoin_k95_whole_orders_read_and_writ
abbrev hk : PySem.W.Hook := hookX 4 fa fn
def ob (s : PySem.W.SharedT) : AlX := obsXG 4 fa fn (HandSHeadRun.getT s)
theorem ob_eq (s : PySem.W.SharedT) : ob s = hk.obs s.abs := obsXG_eq (HandSHeadRun.getT_eq s)
theorem run (w : World) : HandSHeadRun.RunEq R (PySem.W.view R.prog [59]) hk ob 20000 names w := by
  intro os
  kernel_rfl
end Hj
end
section
set_option Elab.async false
set_option linter.all false
set_option maxRecDepth 100000
set_option maxHeartbeats 0
namespace Hj
open PySem PySem.Spec PyProof.Rows L2
/-! ### the end -/
theorem SaysX.at {K : PySem.W.Frag} (c : SaysX fa fn K) (i : Nat) {f : He.Fa} (h : fa[i]? = some f := by rfl) : f.ok K = true := c.fact (List.mem_of_getElem? h)
theorem txt_of {K : PySem.W.Frag} {h : Heap} {mg : Str → Option Value} (X : K.In h) (G : h.Ns mainGlobals mg) (c : SaysX fa fn K) : Txt PySem.Challenge.rw_hedgejoin_k95_whole_orders_read_and_writ.prog K mg := by
  have hm := c.more
  simp only [moreB, moreL, List.all_cons, List.all_nil, Bool.and_true, Bool.and_eq_true] at hm
  obtain ⟨e1, e2, x1, x2, k1, k2, t1, t2⟩ := hm
  exact {
    zlen := He.free_ok X G (c.at 51),
    zmax := He.free_ok X G (c.at 52),
    zall := He.free_ok X G (c.at 53),
    zisinstance := He.free_ok X G (c.at 54),
    ztuple := He.free_ok X G (c.at 55),
    zlist := He.free_ok X G (c.at 56),
    zint := He.free_ok X G (c.at 57),
    zstr := He.free_ok X G (c.at 58),
    zbool := He.free_ok X G (c.at 59),
    zrange := He.free_ok X G (c.at 60),
    zValueError := He.free_ok X G (c.at 61),
    gLETTERS := by
      obtain ⟨t, e⟩ := He.str_ok X G (c.at 63)
      exact ⟨_, e, t, rfl⟩,
    gLETTERS_AND_DIGITS := by
      obtain ⟨t, e⟩ := He.str_ok X G (c.at 64)
      exact ⟨_, e, t, rfl⟩,
    gLONGEST_NAME := by
      obtain ⟨t, e⟩ := He.int_ok X G (c.at 65)
      exact ⟨_, e, t, rfl⟩,
    gMOST_STATEMENTS := by
      obtain ⟨t, e⟩ := He.int_ok X G (c.at 66)
      exact ⟨_, e, t, rfl⟩,
    gMOST_DEPTH := by
      obtain ⟨t, e⟩ := He.int_ok X G (c.at 67)
      exact ⟨_, e, t, rfl⟩,
    gSTATEMENT_WORDS := ⟨_, He.glo_ok X G (c.at 49), rfl⟩,
    gTEST_WORDS := ⟨_, He.glo_ok X G (c.at 50), rfl⟩,
    sw := fun H => He.tupB_ok t1 H,
    tw := fun H => He.tupB_ok t2 H,
    clB := He.cls_ok (c.at 68),
    bW := He.noat_ok (c.at 72),
    bT := He.noat_ok (c.at 73),
    bB := He.noat_ok (c.at 74),
    bO := He.noat_ok (c.at 75),
    bU := He.noat_ok (c.at 76),
    clR := He.cls_ok (c.at 69),
    rW := He.noat_ok (c.at 77),
    rA := He.noat_ok (c.at 78),
    rB := He.noat_ok (c.at 79),
    rC := He.noat_ok (c.at 80),
    rD := He.noat_ok (c.at 81),
    gBadText := He.glo_ok X G (c.at 42),
    gTooMany := He.glo_ok X G (c.at 43),
    gHedgeError := He.glo_ok X G (c.at 44),
    gBadSplit := He.glo_ok X G (c.at 45),
    gBadRow := He.glo_ok X G (c.at 46),
    gBadName := He.glo_ok X G (c.at 47),
    gUnknownLot := He.glo_ok X G (c.at 48),
    bt := ext_ok e1 c.bt (He.free_ok X G (c.at 62)),
    tm := ext_ok e2 c.tm (He.free_ok X G (c.at 62)),
    hfile := by kernel_rfl,
    htop := by kernel_rfl,
    btN := He.noat_ok (c.at 82),
    tmN := He.noat_ok (c.at 83),
    tmL := He.noat_ok (c.at 84),
    btC := (exc_ok x1).1,
    tmC := (exc_ok x2).1,
    btF := (exc_ok x1).2,
    tmF := (exc_ok x2).2,
    btH := (kits_ok k1).1,
    tmH := (kits_ok k2).1,
    bt1 := (kits_ok k1).2.1,
    tm1 := (kits_ok k2).2.1,
    bt2 := (kits_ok k1).2.2.1,
    tm2 := (kits_ok k2).2.2.1,
    bt3 := (kits_ok k1).2.2.2.1,
    tm3 := (kits_ok k2).2.2.2.1,
    bt4 := (kits_ok k1).2.2.2.2.1,
    tm4 := (kits_ok k2).2.2.2.2.1,
    bt5 := (kits_ok k1).2.2.2.2.2.1,
    tm5 := (kits_ok k2).2.2.2.2.2.1,
    bt6 := (kits_ok k1).2.2.2.2.2.2.1,
    tm6 := (kits_ok k2).2.2.2.2.2.2.1,
    bt7 := (kits_ok k1).2.2.2.2.2.2.2,
    tm7 := (kits_ok k2).2.2.2.2.2.2.2 }
theorem defs_of {K : PySem.W.Frag} {h : Heap} {mg : Str → Option Value} (X : K.In h) (G : h.Ns mainGlobals mg) (c : SaysX fa fn K) : Defs K mg := {
    d_is_name := by
      obtain ⟨fd, F0⟩ := c.def_ 0 rfl
      have F : Fun K "is_name" "is_name" s_is_name _ fd := He5.fun_of F0
      exact ⟨_, fd, F, He.glo_ok X G (c.at 0), F.kp, F.binds (fun _ _ _ _ _ _ us hl => match us, hl with | [_], _ => rfl)⟩,
    n_OpenBlock := by
      obtain ⟨fd, F0⟩ := c.def_ 1 rfl
      have F : Fun K "__init__" "OpenBlock.__init__" s_OpenBlock_init _ fd := He5.fun_of F0
      exact ⟨_, fd, F, He.mkr_ok (c.at 70), He.glo_ok X G (c.at 40), F.binds (fun _ _ _ _ _ _ us hl => match us, hl with | [_, _, _], _ => rfl)⟩,
    m_add_statement := by
      obtain ⟨fd, F0⟩ := c.def_ 2 rfl
      have F : Fun K "add_statement" "OpenBlock.add_statement" s_OpenBlock_add_statement _ fd := He5.fun_of F0
      exact ⟨_, fd, F, He.meth_ok (c.at 85), F.binds (fun _ _ _ _ _ _ us hl => match us, hl with | [_, _], _ => rfl)⟩,
    m_closed_statement := by
      obtain ⟨fd, F0⟩ := c.def_ 3 rfl
      have F : Fun K "closed_statement" "OpenBlock.closed_statement" s_OpenBlock_closed_statement _ fd := He5.fun_of F0
      exact ⟨_, fd, F, He.meth_ok (c.at 86), F.binds (fun _ _ _ _ _ _ us hl => match us, hl with | [_], _ => rfl)⟩,
    m_takes_else := by
      obtain ⟨fd, F0⟩ := c.def_ 4 rfl
      have F : Fun K "takes_else" "OpenBlock.takes_else" s_OpenBlock_takes_else _ fd := He5.fun_of F0
      exact ⟨_, fd, F, He.meth_ok (c.at 87), F.binds (fun _ _ _ _ _ _ us hl => match us, hl with | [_], _ => rfl)⟩,
    n_OrderReader := by
      obtain ⟨fd, F0⟩ := c.def_ 5 rfl
      have F : Fun K "__init__" "OrderReader.__init__" s_OrderReader_init _ fd := He5.fun_of F0
      exact ⟨_, fd, F, He.mkr_ok (c.at 71), He.glo_ok X G (c.at 41), F.binds (fun _ _ _ _ _ _ us hl => match us, hl with | [_, _], _ => rfl)⟩,
    m_peek_word := by
      obtain ⟨fd, F0⟩ := c.def_ 6 rfl
      have F : Fun K "peek_word" "OrderReader.peek_word" s_OrderReader_peek_word _ fd := He5.fun_of F0
      exact ⟨_, fd, F, He.meth_ok (c.at 88), F.binds (fun _ _ _ _ _ _ us hl => match us, hl with | [_], _ => rfl)⟩,
    m_take_word := by
      obtain ⟨fd, F0⟩ := c.def_ 7 rfl
      have F : Fun K "take_word" "OrderReader.take_word" s_OrderReader_take_word _ fd := He5.fun_of F0
      exact ⟨_, fd, F, He.meth_ok (c.at 89), F.binds (fun _ _ _ _ _ _ us hl => match us, hl with | [_, _], _ => rfl)⟩,
    m_take_term := by
      obtain ⟨fd, F0⟩ := c.def_ 8 rfl
      have F : Fun K "take_term" "OrderReader.take_term" s_OrderReader_take_term _ fd := He5.fun_of F0
      exact ⟨_, fd, F, He.meth_ok (c.at 90), F.binds (fun _ _ _ _ _ _ us hl => match us, hl with | [_], _ => rfl)⟩,
    m_take_variable := by
      obtain ⟨fd, F0⟩ := c.def_ 9 rfl
      have F : Fun K "take_variable" "OrderReader.take_variable" s_OrderReader_take_variable _ fd := He5.fun_of F0
      exact ⟨_, fd, F, He.meth_ok (c.at 91), F.binds (fun _ _ _ _ _ _ us hl => match us, hl with | [_], _ => rfl)⟩,
    m_take_plain_test := by
      obtain ⟨fd, F0⟩ := c.def_ 10 rfl
      have F : Fun K "take_plain_test" "OrderReader.take_plain_test" s_OrderReader_take_plain_test _ fd := He5.fun_of F0
      exact ⟨_, fd, F, He.meth_ok (c.at 92), F.binds (fun _ _ _ _ _ _ us hl => match us, hl with | [_], _ => rfl)⟩,
    m_take_test := by
      obtain ⟨fd, F0⟩ := c.def_ 11 rfl
      have F : Fun K "take_test" "OrderReader.take_test" s_OrderReader_take_test _ fd := He5.fun_of F0
      exact ⟨_, fd, F, He.meth_ok (c.at 93), F.binds (fun _ _ _ _ _ _ us hl => match us, hl with | [_], _ => rfl)⟩,
    m_allowed_words := by
      obtain ⟨fd, F0⟩ := c.def_ 12 rfl
      have F : Fun K "allowed_words" "OrderReader.allowed_words" s_OrderReader_allowed_words _ fd := He5.fun_of F0
      exact ⟨_, fd, F, He.meth_ok (c.at 94), F.binds (fun _ _ _ _ _ _ us hl => match us, hl with | [_], _ => rfl)⟩,
    m_enter_block := by
      obtain ⟨fd, F0⟩ := c.def_ 13 rfl
      have F : Fun K "enter_block" "OrderReader.enter_block" s_OrderReader_enter_block _ fd := He5.fun_of F0
      exact ⟨_, fd, F, He.meth_ok (c.at 95), F.binds (fun _ _ _ _ _ _ us hl => match us, hl with | [_, _], _ => rfl)⟩,
    m_leave_block := by
      obtain ⟨fd, F0⟩ := c.def_ 14 rfl
      have F : Fun K "leave_block" "OrderReader.leave_block" s_OrderReader_leave_block _ fd := He5.fun_of F0
      exact ⟨_, fd, F, He.meth_ok (c.at 96), F.binds (fun _ _ _ _ _ _ us hl => match us, hl with | [_], _ => rfl)⟩,
    m_read_step := by
      obtain ⟨fd, F0⟩ := c.def_ 15 rfl
      have F : Fun K "read_step" "OrderReader.read_step" s_OrderReader_read_step _ fd := He5.fun_of F0
      exact ⟨_, fd, F, He.meth_ok (c.at 97), F.binds (fun _ _ _ _ _ _ us hl => match us, hl with | [_], _ => rfl)⟩,
    m_read_order := by
      obtain ⟨fd, F0⟩ := c.def_ 16 rfl
      have F : Fun K "read_order" "OrderReader.read_order" s_OrderReader_read_order _ fd := He5.fun_of F0
      exact ⟨_, fd, F, He.meth_ok (c.at 98), F.binds (fun _ _ _ _ _ _ us hl => match us, hl with | [_], _ => rfl)⟩,
    d_opposite_test := by
      obtain ⟨fd, F0⟩ := c.def_ 17 rfl
      have F : Fun K "opposite_test" "opposite_test" s_opposite_test _ fd := He5.fun_of F0
      exact ⟨_, fd, F, He.glo_ok X G (c.at 1), F.kp, F.binds (fun _ _ _ _ _ _ us hl => match us, hl with | [_], _ => rfl)⟩,
    d_parse_order := by
      obtain ⟨fd, F0⟩ := c.def_ 18 rfl
      have F : Fun K "parse_order" "parse_order" s_parse_order _ fd := He5.fun_of F0
      exact ⟨_, fd, F, He.glo_ok X G (c.at 2), F.kp, F.binds (fun _ _ _ _ _ _ us hl => match us, hl with | [_], _ => rfl)⟩,
    d_words_of_test := by
      obtain ⟨fd, F0⟩ := c.def_ 19 rfl
      have F : Fun K "words_of_test" "words_of_test" s_words_of_test _ fd := He5.fun_of F0
      exact ⟨_, fd, F, He.glo_ok X G (c.at 3), F.kp, F.binds (fun _ _ _ _ _ _ us hl => match us, hl with | [_], _ => rfl)⟩,
    d_block_words := by
      obtain ⟨fd, F0⟩ := c.def_ 20 rfl
      have F : Fun K "block_words" "block_words" s_block_words _ fd := He5.fun_of F0
      exact ⟨_, fd, F, He.glo_ok X G (c.at 4), F.kp, F.binds (fun _ _ _ _ _ _ us hl => match us, hl with | [_, _, _], _ => rfl)⟩,
    d_statement_words := by
      obtain ⟨fd, F0⟩ := c.def_ 21 rfl
      have F : Fun K "statement_words" "statement_words" s_statement_words _ fd := He5.fun_of F0
      exact ⟨_, fd, F, He.glo_ok X G (c.at 5), F.kp, F.binds (fun _ _ _ _ _ _ us hl => match us, hl with | [_], _ => rfl)⟩,
    d_order_words := by
      obtain ⟨fd, F0⟩ := c.def_ 22 rfl
      have F : Fun K "order_words" "order_words" s_order_words _ fd := He5.fun_of F0
      exact ⟨_, fd, F, He.glo_ok X G (c.at 6), F.kp, F.binds (fun _ _ _ _ _ _ us hl => match us, hl with | [_], _ => rfl)⟩,
    d_format_order := by
      obtain ⟨fd, F0⟩ := c.def_ 23 rfl
      have F : Fun K "format_order" "format_order" s_format_order _ fd := He5.fun_of F0
      exact ⟨_, fd, F, He.glo_ok X G (c.at 7), F.kp, F.binds (fun _ _ _ _ _ _ us hl => match us, hl with | [_], _ => rfl)⟩,
    d_bodies_of := by
      obtain ⟨fd, F0⟩ := c.def_ 24 rfl
      have F : Fun K "bodies_of" "bodies_of" s_bodies_of _ fd := He5.fun_of F0
      exact ⟨_, fd, F, He.glo_ok X G (c.at 8), F.kp, F.binds (fun _ _ _ _ _ _ us hl => match us, hl with | [_], _ => rfl)⟩,
    d_count_statements := by
      obtain ⟨fd, F0⟩ := c.def_ 25 rfl
      have F : Fun K "count_statements" "count_statements" s_count_statements _ fd := He5.fun_of F0
      exact ⟨_, fd, F, He.glo_ok X G (c.at 9), F.kp, F.binds (fun _ _ _ _ _ _ us hl => match us, hl with | [_], _ => rfl)⟩,
    d_depth_of := by
      obtain ⟨fd, F0⟩ := c.def_ 26 rfl
      have F : Fun K "depth_of" "depth_of" s_depth_of _ fd := He5.fun_of F0
      exact ⟨_, fd, F, He.glo_ok X G (c.at 10), F.kp, F.binds (fun _ _ _ _ _ _ us hl => match us, hl with | [_], _ => rfl)⟩,
    d_law_store := by
      obtain ⟨fd, F0⟩ := c.def_ 27 rfl
      have F : Fun K "_law_store" "_law_store" s_law_store _ fd := He5.fun_of F0
      exact ⟨_, fd, F, He.glo_ok X G (c.at 11), F.kp, F.binds (fun _ _ _ _ _ _ us hl => match us, hl with | [_], _ => rfl)⟩,
    d_law_mixed := by
      obtain ⟨fd, F0⟩ := c.def_ 28 rfl
      have F : Fun K "_law_mixed" "_law_mixed" s_law_mixed _ fd := He5.fun_of F0
      exact ⟨_, fd, F, He.glo_ok X G (c.at 12), F.kp, F.binds (fun _ _ _ _ _ _ us hl => match us, hl with | [_, _, _], _ => rfl)⟩,
    d_law_take := by
      obtain ⟨fd, F0⟩ := c.def_ 29 rfl
      have F : Fun K "_law_take" "_law_take" s_law_take _ fd := He5.fun_of F0
      exact ⟨_, fd, F, He.glo_ok X G (c.at 13), F.kp, F.binds (fun _ _ _ _ _ _ us hl => match us, hl with | [_, _], _ => rfl)⟩,
    d_law_number := by
      obtain ⟨fd, F0⟩ := c.def_ 30 rfl
      have F : Fun K "_law_number" "_law_number" s_law_number _ fd := He5.fun_of F0
      exact ⟨_, fd, F, He.glo_ok X G (c.at 14), F.kp, F.binds (fun _ _ _ _ _ _ us hl => match us, hl with | [_, _, _], _ => rfl)⟩,
    d_law_pick := by
      obtain ⟨fd, F0⟩ := c.def_ 31 rfl
      have F : Fun K "_law_pick" "_law_pick" s_law_pick _ fd := He5.fun_of F0
      exact ⟨_, fd, F, He.glo_ok X G (c.at 15), F.kp, F.binds (fun _ _ _ _ _ _ us hl => match us, hl with | [_, _], _ => rfl)⟩,
    d_law_same := by
      obtain ⟨fd, F0⟩ := c.def_ 32 rfl
      have F : Fun K "_law_same" "_law_same" s_law_same _ fd := He5.fun_of F0
      exact ⟨_, fd, F, He.glo_ok X G (c.at 16), F.kp, F.binds (fun _ _ _ _ _ _ us hl => match us, hl with | [_, _], _ => rfl)⟩,
    d_law_name := by
      obtain ⟨fd, F0⟩ := c.def_ 33 rfl
      have F : Fun K "_law_name" "_law_name" s_law_name _ fd := He5.fun_of F0
      exact ⟨_, fd, F, He.glo_ok X G (c.at 17), F.kp, F.binds (fun _ _ _ _ _ _ us hl => match us, hl with | [_], _ => rfl)⟩,
    d_law_is_name := by
      obtain ⟨fd, F0⟩ := c.def_ 34 rfl
      have F : Fun K "_law_is_name" "_law_is_name" s_law_is_name _ fd := He5.fun_of F0
      exact ⟨_, fd, F, He.glo_ok X G (c.at 18), F.kp, F.binds (fun _ _ _ _ _ _ us hl => match us, hl with | [_], _ => rfl)⟩,
    d_law_unlike := by
      obtain ⟨fd, F0⟩ := c.def_ 35 rfl
      have F : Fun K "_law_unlike" "_law_unlike" s_law_unlike _ fd := He5.fun_of F0
      exact ⟨_, fd, F, He.glo_ok X G (c.at 19), F.kp, F.binds (fun _ _ _ _ _ _ us hl => match us, hl with | [_, _], _ => rfl)⟩,
    d_law_names := by
      obtain ⟨fd, F0⟩ := c.def_ 36 rfl
      have F : Fun K "_law_names" "_law_names" s_law_names _ fd := He5.fun_of F0
      exact ⟨_, fd, F, He.glo_ok X G (c.at 20), F.kp, F.binds (fun _ _ _ _ _ _ us hl => match us, hl with | [_, _], _ => rfl)⟩,
    d_law_term := by
      obtain ⟨fd, F0⟩ := c.def_ 37 rfl
      have F : Fun K "_law_term" "_law_term" s_law_term _ fd := He5.fun_of F0
      exact ⟨_, fd, F, He.glo_ok X G (c.at 21), F.kp, F.binds (fun _ _ _ _ _ _ us hl => match us, hl with | [_, _, _], _ => rfl)⟩,
    d_law_test := by
      obtain ⟨fd, F0⟩ := c.def_ 38 rfl
      have F : Fun K "_law_test" "_law_test" s_law_test _ fd := He5.fun_of F0
      exact ⟨_, fd, F, He.glo_ok X G (c.at 22), F.kp, F.binds (fun _ _ _ _ _ _ us hl => match us, hl with | [_, _, _], _ => rfl)⟩,
    d_law_statement := by
      obtain ⟨fd, F0⟩ := c.def_ 39 rfl
      have F : Fun K "_law_statement" "_law_statement" s_law_statement _ fd := He5.fun_of F0
      exact ⟨_, fd, F, He.glo_ok X G (c.at 23), F.kp, F.binds (fun _ _ _ _ _ _ us hl => match us, hl with | [_, _, _, _, _], _ => rfl)⟩,
    d_law_order := by
      obtain ⟨fd, F0⟩ := c.def_ 40 rfl
      have F : Fun K "_law_order" "_law_order" s_law_order _ fd := He5.fun_of F0
      exact ⟨_, fd, F, He.glo_ok X G (c.at 24), F.kp, F.binds (fun _ _ _ _ _ _ us hl => match us, hl with | [_, _, _, _, _], _ => rfl)⟩,
    d_law_order_words := by
      obtain ⟨fd, F0⟩ := c.def_ 41 rfl
      have F : Fun K "_law_order_words" "_law_order_words" s_law_order_words _ fd := He5.fun_of F0
      exact ⟨_, fd, F, He.glo_ok X G (c.at 25), F.kp, F.binds (fun _ _ _ _ _ _ us hl => match us, hl with | [_, _, _], _ => rfl)⟩,
    d_law_test_words := by
      obtain ⟨fd, F0⟩ := c.def_ 42 rfl
      have F : Fun K "_law_test_words" "_law_test_words" s_law_test_words _ fd := He5.fun_of F0
      exact ⟨_, fd, F, He.glo_ok X G (c.at 26), F.kp, F.binds (fun _ _ _ _ _ _ us hl => match us, hl with | [_], _ => rfl)⟩,
    d_law_nest_text := by
      obtain ⟨fd, F0⟩ := c.def_ 43 rfl
      have F : Fun K "_law_nest_text" "_law_nest_text" s_law_nest_text _ fd := He5.fun_of F0
      exact ⟨_, fd, F, He.glo_ok X G (c.at 27), F.kp, F.binds (fun _ _ _ _ _ _ us hl => match us, hl with | [_, _], _ => rfl)⟩,
    d_law_refusal := by
      obtain ⟨fd, F0⟩ := c.def_ 44 rfl
      have F : Fun K "_law_refusal" "_law_refusal" s_law_refusal _ fd := He5.fun_of F0
      exact ⟨_, fd, F, He.glo_ok X G (c.at 28), F.kp, F.binds (fun _ _ _ _ _ _ us hl => match us, hl with | [_], _ => rfl)⟩,
    d_law_stands := by
      obtain ⟨fd, F0⟩ := c.def_ 45 rfl
      have F : Fun K "_law_stands" "_law_stands" s_law_stands _ fd := He5.fun_of F0
      exact ⟨_, fd, F, He.glo_ok X G (c.at 29), F.kp, F.binds (fun _ _ _ _ _ _ us hl => match us, hl with | [_, _, _], _ => rfl)⟩,
    d_law_waiting := by
      obtain ⟨fd, F0⟩ := c.def_ 46 rfl
      have F : Fun K "_law_waiting" "_law_waiting" s_law_waiting _ fd := He5.fun_of F0
      exact ⟨_, fd, F, He.glo_ok X G (c.at 30), F.kp, F.binds (fun _ _ _ _ _ _ us hl => match us, hl with | [_, _], _ => rfl)⟩,
    d_law_head := by
      obtain ⟨fd, F0⟩ := c.def_ 47 rfl
      have F : Fun K "_law_head" "_law_head" s_law_head _ fd := He5.fun_of F0
      exact ⟨_, fd, F, He.glo_ok X G (c.at 31), F.kp, F.binds (fun _ _ _ _ _ _ us hl => match us, hl with | [_], _ => rfl)⟩,
    d_law_closed_statement := by
      obtain ⟨fd, F0⟩ := c.def_ 48 rfl
      have F : Fun K "_law_closed_statement" "_law_closed_statement" s_law_closed_statement _ fd := He5.fun_of F0
      exact ⟨_, fd, F, He.glo_ok X G (c.at 32), F.kp, F.binds (fun _ _ _ _ _ _ us hl => match us, hl with | [_], _ => rfl)⟩,
    d_law_read := by
      obtain ⟨fd, F0⟩ := c.def_ 49 rfl
      have F : Fun K "_law_read" "_law_read" s_law_read _ fd := He5.fun_of F0
      exact ⟨_, fd, F, He.glo_ok X G (c.at 33), F.kp, F.binds (fun _ _ _ _ _ _ us hl => match us, hl with | [_], _ => rfl)⟩,
    d_law_text_read := by
      obtain ⟨fd, F0⟩ := c.def_ 50 rfl
      have F : Fun K "_law_text_read" "_law_text_read" s_law_text_read _ fd := He5.fun_of F0
      exact ⟨_, fd, F, He.glo_ok X G (c.at 34), F.kp, F.binds (fun _ _ _ _ _ _ us hl => match us, hl with | [_], _ => rfl)⟩,
    d_law_odd_words := by
      obtain ⟨fd, F0⟩ := c.def_ 51 rfl
      have F : Fun K "_law_odd_words" "_law_odd_words" s_law_odd_words _ fd := He5.fun_of F0
      exact ⟨_, fd, F, He.glo_ok X G (c.at 35), F.kp, F.binds (fun _ _ _ _ _ _ us hl => match us, hl with | [_, _, _], _ => rfl)⟩,
    d_law_told := by
      obtain ⟨fd, F0⟩ := c.def_ 52 rfl
      have F : Fun K "_law_told" "_law_told" s_law_told _ fd := He5.fun_of F0
      exact ⟨_, fd, F, He.glo_ok X G (c.at 36), F.kp, F.binds (fun _ _ _ _ _ _ us hl => match us, hl with | [_], _ => rfl)⟩,
    d_law_written_right := by
      obtain ⟨fd, F0⟩ := c.def_ 53 rfl
      have F : Fun K "_law_written_right" "_law_written_right" s_law_written_right _ fd := He5.fun_of F0
      exact ⟨_, fd, F, He.glo_ok X G (c.at 37), F.kp, F.binds (fun _ _ _ _ _ _ us hl => match us, hl with | [_, _, _], _ => rfl)⟩,
    d_law_text_right := by
      obtain ⟨fd, F0⟩ := c.def_ 54 rfl
      have F : Fun K "_law_text_right" "_law_text_right" s_law_text_right _ fd := He5.fun_of F0
      exact ⟨_, fd, F, He.glo_ok X G (c.at 38), F.kp, F.binds (fun _ _ _ _ _ _ us hl => match us, hl with | [_, _], _ => rfl)⟩,
    d_law := by
      obtain ⟨fd, F0⟩ := c.def_ 55 rfl
      have F : Fun K "law" "law" s_law _ fd := He5.fun_of F0
      exact ⟨_, fd, F, He.glo_ok X G (c.at 39), F.kp, F.binds (fun _ _ _ _ _ _ us hl => match us, hl with | [_], _ => rfl)⟩ }
end Hj
open PySem PySem.W PySem.Calls PyProof.Rows
/-- the head's end, and what is left to be shown of the defs -/
theorem Hj.early (AL : ∀ {P : Program} {w : World} {K : PySem.W.Frag} {mg : Str → Option Value} {base : Heap}, Hj.Txt P K mg → Hj.Defs K mg → ∀ {f : Addr} {fd : FuncData}, L2.Fun K "law" "law" Hj.s_law f fd → L2.FnOk P w K mg base L2.CX0 17 f fd ["_law_script"] (Hj.spLaw K)) : PySem.Challenge.rw_hedgejoin_k95_whole_orders_read_and_writ.Holds := by
  w_on; o_law
  refine HandSHeadRun.head_any (r := OpenLaw.row PySem.Challenge.rw_hedgejoin_k95_whole_orders_read_and_writ) (q := view (OpenLaw.row PySem.Challenge.rw_hedgejoin_k95_whole_orders_read_and_writ).prog [59]) (H := Hj.hk) (ob := Hj.ob) (M := 20000) (loose := Hj.names) (d := HandSHeadRun.topDef (OpenLaw.row PySem.Challenge.rw_hedgejoin_k95_whole_orders_read_and_writ).prog 59) (kwd := []) Hj.ob_eq
    (by kernel_rfl) (fun s => by kernel_rfl) Hj.run (by kernel_rfl) (by kernel_rfl) (by kernel_rfl) (by rfl) (by first | assumption | decide +kernel) (by decide +kernel) ⟨rfl, rfl, rfl, rfl, rfl, by decide +kernel⟩ ?hw ?hc
  case hw => w_witness2
  case hc =>
    refine L2.walk_ofE (l := PySem.Challenge.rw_hedgejoin_k95_whole_orders_read_and_writ) (n := 63) (k := 17) (x := "_law_script") (CX := L2.CX0) rfl (by decide) (by kernel_rfl) ⟨rfl, by decide, by decide⟩ ?F (fun _ _ _ _ z => z)
    intro w mg fa h Y G hmg0
    obtain ⟨K, KX, c⟩ := Y
    have hmg : mg ("law" : PySem.Str) = some (.ref fa) := by
      have e : (HandSHeadRun.topDef (OpenLaw.row PySem.Challenge.rw_hedgejoin_k95_whole_orders_read_and_writ).prog 59).name = ("law" : PySem.Str) := by kernel_rfl
      rw [← e]
      exact hmg0
    have T := Hj.txt_of KX G c
    have D := Hj.defs_of KX G c
    obtain ⟨fd, F0⟩ := c.def_ 55 rfl
    have b := L2.FunD.bindsA (ps := ["_law_script"]) F0 fun _ _ _ _ _ _ us hl => match us, hl with | [_], _ => rfl
    have F : L2.Fun K "law" "law" Hj.s_law _ fd := He5.fun_of F0
    have e1 := (He.glo_ok KX G (c.at 39)).symm.trans hmg
    cases e1
    exact ⟨K, fd, Hj.spLaw K, KX, fun s v => b s [v] rfl, fun H a ns hl _ hS => ⟨a, ns, rfl, hS, Nat.le_trans hl (by decide), fun _ => rfl⟩, fun base _ _ => AL T D F⟩
end
section
set_option Elab.async false
set_option linter.all false
set_option maxRecDepth 100000
set_option maxHeartbeats 4000000
local macro_rules | `(tactic| walk_at "rd") => `(tactic| repeat (first
  | with_reducible refine Hj.r_seq ?_
  | with_reducible refine Hj.r_nx ?_
  | with_reducible refine Hj.r_rt ?_
  | with_reducible refine L2.iteT ?_
  | with_reducible refine L2.iteF ?_
  | with_reducible refine Hj.r_set ?_
  | with_reducible refine Hj.r_gname ?_
  | with_reducible refine Hj.r_if ?_
  | with_reducible refine Hj.r_ret ?_
  | ((with_reducible show L2.tVar _ _ _ _); refine ⟨_, rfl, ?_⟩)
  | with_reducible refine Hj.r_c ?_
  | with_reducible refine Hj.r_cons ?_
  | with_reducible refine Hj.r_nil ?_
  | with_reducible refine Hj.r_op ?_
  | with_reducible refine Hj.r_test ?_
  | with_reducible refine Hj.r_B ?_
  | with_reducible refine Hj.r_cb ?_
  | with_reducible refine Hj.r_blV ?_
  | with_reducible refine Hj.r_and ?_
  | with_reducible refine Hj.r_or ?_
  | with_reducible refine Hj.r_not ?_
  | with_reducible refine Hj.r_call ?_
  | with_reducible refine Hj.r_tup ?_
  | with_reducible refine Hj.r_lst ?_
  | with_reducible refine Hj.r_eqS ?_
  | with_reducible refine Hj.r_eqI ?_
  | with_reducible refine Hj.r_neS ?_
  | with_reducible refine Hj.r_neI ?_
  | with_reducible refine Hj.r_isN ?_
  | with_reducible refine Hj.r_I0 ?_
  | with_reducible refine Hj.r_addI ?_
  | with_reducible refine Hj.r_intOf ?_
  | with_reducible refine Hj.r_mx ?_
  | with_reducible refine Hj.r_un ?_
  | with_reducible refine Hj.r_neg ?_
  | with_reducible refine Hj.r_drop ?_
  | with_reducible refine Hj.r_next ?_
  | with_reducible refine Hj.r_retN ?_
  | with_reducible refine Hj.r_sub ?_
  | with_reducible refine Hj.r_asg ?_
  | with_reducible refine Hj.r_bm ?_
  | with_reducible refine Hj.r_bm0 ?_
  | with_reducible refine Hj.r_meth ?_
  | with_reducible refine Hj.r_make ?_
  | with_reducible refine Hj.r_fldE ?_
  | with_reducible refine Hj.r_setF ?_
  | with_reducible refine Hj.r_sl ?_
  | with_reducible refine Hj.r_no ?_
  | with_reducible refine Hj.r_part ?_
  | with_reducible refine Hj.r_partI ?_
  | with_reducible refine Hj.r_m1 ?_
  | with_reducible refine Hj.r_strs ?_
  | with_reducible refine Hj.r_andV ?_
  | with_reducible refine Hj.r_orV ?_
  | with_reducible refine Hj.r_notV ?_
  | with_reducible refine Hj.r_for ?_
  | with_reducible refine Hj.r_rng ?_
  | with_reducible refine Hj.r_itL ?_
  | with_reducible refine Hj.r_itT ?_
  | with_reducible refine Hj.r_itS ?_
  | with_reducible refine Hj.r_itSE ?_))
local macro_rules | `(tactic| walk_at "cl") => `(tactic| ((try dsimp only [L2.cxOf, L2.Cx.nox]); simp only [L2.start, List.map, List.length, List.replicate, List.cons_append, List.nil_append, Nat.reduceAdd, Nat.reduceSub]))
local macro_rules | `(tactic| walk_at "len") => `(tactic| (intro vs H Q E h; first
  | (obtain ⟨_, ee, _⟩ := h; subst ee; rfl) | (obtain ⟨_, _, ee, _⟩ := h; subst ee; rfl) | (obtain ⟨_, _, _, ee, _⟩ := h; subst ee; rfl) | (obtain ⟨_, _, _, _, ee, _⟩ := h; subst ee; rfl) | (obtain ⟨_, _, _, _, _, ee, _⟩ := h; subst ee; rfl) | (obtain ⟨_, _, _, _, _, _, ee, _⟩ := h; subst ee; rfl)
  | (obtain ⟨_, _, _, _, _, _, _, ee, _⟩ := h; subst ee; rfl) | (obtain ⟨_, _, _, _, _, _, _, _, ee, _⟩ := h; subst ee; rfl) | (obtain ⟨_, _, _, _, _, _, _, _, _, ee, _⟩ := h; subst ee; rfl) | (obtain ⟨_, _, _, _, _, _, _, _, _, _, ee, _⟩ := h; subst ee; rfl)))
namespace Hj
open PySem PySem.Spec L2
section
variable {P : Program} {w : World} {K : PySem.W.Frag} {mg : Str → Option Value} {base : Heap}
/-! ### is_name -/
theorem let_codes : sLET.cps.toList = letters := by decide +kernel
theorem lad_codes : sLAD.cps.toList = signs36 := by decide +kernel
theorem cps_len (z : Str) : z.cps.toList.length = z.length := Array.length_toList
/-- the walk of a comprehension over a text's signs: the answers, sign by sign -/
theorem lc_signs {z : Str} {f : Nat → V} {σ : L2.St} {H1 : Hp} {D0 : Addr} {Q : Hp → Prop} {j : Nat} {te : TE} (hz : z.length ≤ 1000000) (hD : H1 D0 = none) (hw : ∀ x, wipe ((wipe σ [j]).set j (some x)) [j] = wipe σ [j])
    (he : ∀ (c : Nat) (H2 : Hp) (QE : VK), QE (f c) H2 → te ((wipe σ [j]).set j (some (.str ⟨#[c]⟩))) H2 QE) (hq : ∀ H2, Kp [] H1 H2 → H2 D0 = some (.lst (z.cps.toList.map f)) → Q H2) :
    ∃ W : Nat → Nat → Hp → Prop, (∃ m, W 0 m (upd H1 D0 (.lst []))) ∧ ∀ i m H, W i m H →
      ((Its z).stop i H ∧ Q H) ∨ ((Its z).go i H ∧ ∃ Nx : Hp → Prop, (∀ H', Nx H' → ∃ m', m' < m ∧ W (i + 1) m' H') ∧ ∀ x H', (Its z).yld i H x H' → gName j x (wipe σ [j]) H' fun σ2 H2 => wipe σ2 [j] = wipe σ [j] ∧ tYes σ2 H2 fun b H3 =>
        if b = true then te σ2 H3 fun y H4 => ∃ acc, H4 D0 = some (.lst acc) ∧ acc.length < sizeLine ∧ Nx (upd H4 D0 (.lst (acc ++ [y]))) else Nx H3) := by
  refine ⟨fun i m H => m = z.length - i ∧ i ≤ z.length ∧ Kp [] H1 H ∧ H D0 = some (.lst ((z.cps.toList.take i).map f)), ⟨z.length, by simp, Nat.zero_le _, Kp.new hD, by rw [upd_same]; simp⟩, ?_⟩
  rintro i m H ⟨rfl, hi, kp, hl⟩
  have es : z.cps.size = z.length := rfl
  by_cases h : i < z.length
  · refine .inr ⟨h, fun H => Kp [] H1 H ∧ H D0 = some (.lst ((z.cps.toList.take (i + 1)).map f)), fun H' ⟨a, b⟩ => ⟨z.length - (i + 1), by omega, rfl, h, a, b⟩, ?_⟩
    rintro x H' ⟨rfl, c, hc, rfl⟩
    refine ⟨hw _, ?_⟩
    simp only [tYes, ↓reduceIte]
    refine he c _ _ ⟨_, hl, szl (by rw [List.length_map, List.length_take, cps_len]; omega), fun a o ho hn => ?_, ?_⟩
    · rw [upd_ne (ne_of_none ho hD)]
      exact kp a o ho hn
    · rw [upd_same, List.take_succ]
      have e : z.cps.toList[i]? = some c := by rw [Array.getElem?_toList]; exact hc
      rw [e]
      simp
  · have e : i = z.length := by omega
    subst e
    refine .inl ⟨Nat.le_of_eq es, hq _ kp ?_⟩
    rw [hl, ← cps_len, List.take_length]
def spIsName : Sp := fun vs H Q _ => ∃ z : Str, vs = [.str z] ∧ z.length ≤ 100000 ∧ ∀ H', Kp [] H H' → Q (.bl (isNm z)) H'
theorem sc_is_name : FnScope ["text", "sign"] ["text"] (defScope s_is_name) := ⟨rfl, rfl, rfl, by decide +kernel, rfl, by decide +kernel, by decide +kernel⟩
theorem ok_is_name {f : Addr} {fd : FuncData} (F : Fun K "is_name" "is_name" s_is_name f fd) (T : Txt P K mg) : FnOk P w K mg base CX0 1 f fd ["text"] spIsName := by
  refine F.ok sc_is_name ?_ (fun cdv A outer s H vs Q E hr0 h => ?_)
  · walk_at "len"
  obtain ⟨z, rfl, hz, q⟩ := h
  refine ⟨_, (pss_cons (ps_if (PW.pt (pw_or (pt_cmpR op_lt (pe_callB call_lenA (by rfl) T.zlen (by decide +kernel) (pa_cons (pv 0) pa_nil)) pe_int (nomark _)) (pw_or1 (pt_cmpR op_gt (pe_callB call_lenA (by rfl) T.zlen (by decide +kernel) (pa_cons (pv 0) pa_nil)) (pe_gc T.gLONGEST_NAME rfl) (nomark _))))) (pss_one (ps_ret pe_bl)) pss_nil) (pss_cons (ps_if (pt_cmpR opNotIn (pe_ix ix_seq (pv 0) pe_int (fun _ _ => rfl)) (pe_gc T.gLETTERS rfl) (by rfl)) (pss_one (ps_ret pe_bl)) pss_nil) (pss_one (ps_ret (pe_callB (cr_all rfl) (by rfl) T.zall (by decide +kernel) (pa_cons (pe_lc (own := [("sign", 1)]) (g := gName 1) (by rfl) sc_is_name.nd (pi_str (pv 0)) (blkOk_by (own := [("sign", 1)]) (N := ["text", "sign"]) (sc := defScope s_is_name) (by decide +kernel)) (fun _ _ _ _ _ => pg_name (i := 1) sc_is_name.nd rfl (Or.inl rfl)) (fun _ _ _ _ _ => pts_nil) (fun _ _ _ _ _ => (pe_cmpR op_sgn (pv 1) (pe_gc T.gLETTERS_AND_DIGITS rfl) (by rfl)))) pa_nil)))))), ?_⟩
  walk_at "cl"
  walk_at "rd"
  refine r_lenS (by omega) ?_
  walk_at "rd"
  have ez := cps_len z
  refine r_d (fun c => ?_) (fun c => ?_)
  · walk_at "rd"
    have e : isNm z = false := by
      unfold isNm
      rw [decide_eq_false (by omega), Bool.false_and]
    rw [← e]
    exact q _ .refl
  walk_at "rd"
  refine r_lenS (by omega) ?_
  walk_at "rd"
  refine r_d (fun c2 => ?_) (fun c2 => ?_)
  · walk_at "rd"
    have e : isNm z = false := by
      unfold isNm
      rw [decide_eq_false (show ¬ z.length ≤ 8 by omega), Bool.false_and, Bool.and_false]
    rw [← e]
    exact q _ .refl
  walk_at "rd"
  obtain ⟨c0, r, ec⟩ : ∃ c0 r, z.cps.toList = c0 :: r := by
    cases h : z.cps.toList with
    | nil => rw [h] at ez; simp at ez; omega
    | cons a r => exact ⟨a, r, rfl⟩
  refine r_ixS (c := c0) (by omega) ?_ ?_
  · rw [ec]
    exact atI_nat (j := 0) rfl
  walk_at "rd"
  refine r_ninS ?_
  walk_at "rd"
  rw [let_codes]
  refine r_nd (fun c3 => ?_) (fun c3 => ?_)
  · walk_at "rd"
    have e : isNm z = false := by
      unfold isNm
      rw [ec]
      have e1 : letters.contains c0 = false := by simpa using c3
      simp only [e1, Bool.false_and, Bool.and_false]
    rw [← e]
    exact q _ .refl
  walk_at "rd"
  refine ⟨_, rfl, z, rfl, fun D0 hD => ?_⟩
  refine lc_signs (f := fun c => .bl (decide (c ∈ sLAD.cps.toList))) (by omega) hD (fun x => rfl) (fun c H2 QE k => ?_) (fun H2 kp hl => ?_)
  · walk_at "rd"
    exact ⟨c, sLAD, rfl, rfl, k⟩
  · walk_at "rd"
    refine ⟨D0, z.cps.toList.map fun c => decide (c ∈ sLAD.cps.toList), rfl, SqL.of (by rw [hl, List.map_map]; rfl), ?_⟩
    have e : (z.cps.toList.map fun c => decide (c ∈ sLAD.cps.toList)).all id = isNm z := by
      unfold isNm
      rw [decide_eq_true (show 1 ≤ z.length by omega), decide_eq_true (show z.length ≤ 8 by omega), ec]
      have e1 : letters.contains c0 = true := by simpa using c3
      simp only [e1, Bool.true_and, lad_codes, List.all_map]
      refine congrArg (fun g => List.all (c0 :: r) g) (funext fun x => ?_)
      show decide (x ∈ signs36) = signs36.contains x
      simp
    rw [e]
    exact q _ kp
/-! ### _law_is_name -/
def sDig : Str := "0123456789"
theorem sc_law_is_name : FnScope ["_law_word", "_law_letters", "_law_sign"] ["_law_word"] (defScope s_law_is_name) := ⟨rfl, rfl, rfl, by decide +kernel, rfl, by decide +kernel, by decide +kernel⟩
theorem ok_law_is_name {f : Addr} {fd : FuncData} (F : Fun K "_law_is_name" "_law_is_name" s_law_is_name f fd) (T : Txt P K mg) : FnOk P w K mg base CX0 1 f fd ["_law_word"] spIsName := by
  refine F.ok sc_law_is_name ?_ (fun cdv A outer s H vs Q E hr0 h => ?_)
  · walk_at "len"
  obtain ⟨z, rfl, hz, q⟩ := h
  have ez := cps_len z
  refine ⟨_, (pss_cons (ps_set (i := 1) sc_law_is_name.nd rfl (Or.inl rfl) pe_str) (pss_cons (ps_if (PW.pt (pw_or (pt_cmpR op_lt (pe_callB call_lenA (by rfl) T.zlen (by decide +kernel) (pa_cons (pv 0) pa_nil)) pe_int (nomark _)) (pw_or (pt_cmpR op_gt (pe_callB call_lenA (by rfl) T.zlen (by decide +kernel) (pa_cons (pv 0) pa_nil)) pe_int (nomark _)) (pw_or1 (pt_cmpR opNotIn (pe_ix ix_seq (pv 0) pe_int (fun _ _ => rfl)) (pv 1) (by rfl)))))) (pss_one (ps_ret pe_bl)) pss_nil) (pss_cons (ps_for PassesOwn.never rfl (pi_str (pv 0)) (pg_name (i := 2) sc_law_is_name.nd rfl (Or.inl rfl)) (pss_one (ps_if (pt_cmpR opNotIn (pv 2) (pe_op opAdd (pv 1) pe_str) (by rfl)) (pss_one (ps_ret pe_bl)) pss_nil))) (pss_one (ps_ret pe_bl))))), ?_⟩
  walk_at "cl"
  walk_at "rd"
  refine r_lenS (by omega) ?_
  walk_at "rd"
  refine r_d (fun c => ?_) (fun c => ?_)
  · walk_at "rd"
    have e : isNm z = false := by
      unfold isNm
      rw [decide_eq_false (by omega), Bool.false_and]
    rw [← e]
    exact q _ .refl
  walk_at "rd"
  refine r_lenS (by omega) ?_
  walk_at "rd"
  refine r_d (fun c2 => ?_) (fun c2 => ?_)
  · walk_at "rd"
    have e : isNm z = false := by
      unfold isNm
      rw [decide_eq_false (show ¬ z.length ≤ 8 by omega), Bool.false_and, Bool.and_false]
    rw [← e]
    exact q _ .refl
  walk_at "rd"
  obtain ⟨c0, r, ec⟩ : ∃ c0 r, z.cps.toList = c0 :: r := by
    cases h : z.cps.toList with
    | nil => rw [h] at ez; simp at ez; omega
    | cons a r => exact ⟨a, r, rfl⟩
  refine r_ixS (c := c0) (by omega) ?_ ?_
  · rw [ec]
    exact atI_nat (j := 0) rfl
  walk_at "rd"
  refine r_ninS ?_
  walk_at "rd"
  have elet : (Str.ofString "abcdefghijklmnopqrstuvwxyz").cps.toList = letters := let_codes
  rw [elet]
  have e3 : isNm z = (letters.contains c0 && z.cps.toList.all fun c => signs36.contains c) := by
    unfold isNm
    rw [decide_eq_true (show 1 ≤ z.length by omega), decide_eq_true (show z.length ≤ 8 by omega), ec, Bool.true_and, Bool.true_and]
  refine r_nd (fun c3 => ?_) (fun c3 => ?_)
  · walk_at "rd"
    have e1 : letters.contains c0 = false := by simpa using c3
    have e : isNm z = false := by rw [e3, e1, Bool.false_and]
    rw [← e]
    exact q _ .refl
  walk_at "rd"
  have e1 : letters.contains c0 = true := by simpa using c3
  rw [e1, Bool.true_and] at e3
  refine for_str (fun i σ H' => ∃ v, σ = [some (.str z), some (.str sLET), v] ∧ H' = H ∧ ∀ x ∈ z.cps.toList.take i, x ∈ signs36) ⟨_, rfl, rfl, by simp⟩ ?_ ?_
  · rintro i c σ' H' hi ⟨v, rfl, rfl, hx⟩
    walk_at "rd"
    refine r_addS (by decide +kernel) ?_
    refine r_ninS ?_
    walk_at "rd"
    have e36 : ((Str.ofString "abcdefghijklmnopqrstuvwxyz") ++ (Str.ofString "0123456789") : Str).cps.toList = signs36 := by decide +kernel
    have e37 : (sLET ++ (Str.ofString "0123456789") : Str).cps.toList = signs36 := e36
    rw [e37]
    refine r_nd (fun c4 => ?_) (fun c4 => ?_)
    · walk_at "rd"
      have e : isNm z = false := by
        rw [e3, List.all_eq_false]
        exact ⟨c, List.mem_of_getElem? hi, by simpa using c4⟩
      rw [← e]
      exact q _ .refl
    · walk_at "rd"
      refine ⟨_, rfl, rfl, fun x h => ?_⟩
      rw [List.take_succ, hi] at h
      rcases List.mem_append.mp h with h | h
      · exact hx x h
      · have : x = c := by simpa using h
        rw [this]
        exact c4
  · rintro σ' H' ⟨v, rfl, rfl, hx⟩
    walk_at "rd"
    rw [← cps_len, List.take_length] at hx
    have e : isNm z = true := by
      rw [e3, List.all_eq_true]
      intro x h
      simpa using hx x h
    rw [← e]
    exact q _ .refl
end
end Hj
end
section
set_option Elab.async false
set_option linter.all false
set_option maxRecDepth 100000
set_option maxHeartbeats 4000000
local macro_rules | `(tactic| walk_at "rd") => `(tactic| repeat (first
  | with_reducible refine Hj.r_seq ?_
  | with_reducible refine Hj.r_nx ?_
  | with_reducible refine Hj.r_rt ?_
  | with_reducible refine L2.iteT ?_
  | with_reducible refine L2.iteF ?_
  | with_reducible refine Hj.r_set ?_
  | with_reducible refine Hj.r_gname ?_
  | with_reducible refine Hj.r_if ?_
  | with_reducible refine Hj.r_ret ?_
  | ((with_reducible show L2.tVar _ _ _ _); refine ⟨_, rfl, ?_⟩)
  | with_reducible refine Hj.r_c ?_
  | with_reducible refine Hj.r_cons ?_
  | with_reducible refine Hj.r_nil ?_
  | with_reducible refine Hj.r_op ?_
  | with_reducible refine Hj.r_test ?_
  | with_reducible refine Hj.r_B ?_
  | with_reducible refine Hj.r_cb ?_
  | with_reducible refine Hj.r_blV ?_
  | with_reducible refine Hj.r_and ?_
  | with_reducible refine Hj.r_or ?_
  | with_reducible refine Hj.r_not ?_
  | with_reducible refine Hj.r_call ?_
  | with_reducible refine Hj.r_tup ?_
  | with_reducible refine Hj.r_lst ?_
  | with_reducible refine Hj.r_eqS ?_
  | with_reducible refine Hj.r_eqI ?_
  | with_reducible refine Hj.r_neS ?_
  | with_reducible refine Hj.r_neI ?_
  | with_reducible refine Hj.r_isN ?_
  | with_reducible refine Hj.r_I0 ?_
  | with_reducible refine Hj.r_addI ?_
  | with_reducible refine Hj.r_intOf ?_
  | with_reducible refine Hj.r_mx ?_
  | with_reducible refine Hj.r_un ?_
  | with_reducible refine Hj.r_neg ?_
  | with_reducible refine Hj.r_drop ?_
  | with_reducible refine Hj.r_next ?_
  | with_reducible refine Hj.r_retN ?_
  | with_reducible refine Hj.r_sub ?_
  | with_reducible refine Hj.r_asg ?_
  | with_reducible refine Hj.r_bm ?_
  | with_reducible refine Hj.r_bm0 ?_
  | with_reducible refine Hj.r_meth ?_
  | with_reducible refine Hj.r_make ?_
  | with_reducible refine Hj.r_fldE ?_
  | with_reducible refine Hj.r_setF ?_
  | with_reducible refine Hj.r_sl ?_
  | with_reducible refine Hj.r_no ?_
  | with_reducible refine Hj.r_part ?_
  | with_reducible refine Hj.r_partI ?_
  | with_reducible refine Hj.r_m1 ?_
  | with_reducible refine Hj.r_strs ?_
  | with_reducible refine Hj.r_andV ?_
  | with_reducible refine Hj.r_orV ?_
  | with_reducible refine Hj.r_notV ?_
  | with_reducible refine Hj.r_for ?_
  | with_reducible refine Hj.r_rng ?_
  | with_reducible refine Hj.r_itL ?_
  | with_reducible refine Hj.r_itT ?_
  | with_reducible refine Hj.r_itS ?_
  | with_reducible refine Hj.r_itSE ?_))
local macro_rules | `(tactic| walk_at "cl") => `(tactic| ((try dsimp only [L2.cxOf, L2.Cx.nox]); simp only [L2.start, List.map, List.length, List.replicate, List.cons_append, List.nil_append, Nat.reduceAdd, Nat.reduceSub]))
local macro_rules | `(tactic| walk_at "len") => `(tactic| (intro vs H Q E h; first
  | (obtain ⟨_, ee, _⟩ := h; subst ee; rfl) | (obtain ⟨_, _, ee, _⟩ := h; subst ee; rfl) | (obtain ⟨_, _, _, ee, _⟩ := h; subst ee; rfl) | (obtain ⟨_, _, _, _, ee, _⟩ := h; subst ee; rfl) | (obtain ⟨_, _, _, _, _, ee, _⟩ := h; subst ee; rfl) | (obtain ⟨_, _, _, _, _, _, ee, _⟩ := h; subst ee; rfl)
  | (obtain ⟨_, _, _, _, _, _, _, ee, _⟩ := h; subst ee; rfl) | (obtain ⟨_, _, _, _, _, _, _, _, ee, _⟩ := h; subst ee; rfl) | (obtain ⟨_, _, _, _, _, _, _, _, _, ee, _⟩ := h; subst ee; rfl) | (obtain ⟨_, _, _, _, _, _, _, _, _, _, ee, _⟩ := h; subst ee; rfl)))
namespace Hj
open PySem PySem.Spec L2
section
variable {P : Program} {w : World} {K : PySem.W.Frag} {mg : Str → Option Value} {base : Heap}
/-! ### the store of draws -/
structure StoreAt (H : Hp) (st cs : Addr) : Prop where
  ex : ∃ (ns : List Int) (i big turn seed : Int), H st = some (.lst [.ref cs, .int i, .int big, .int turn, .int seed]) ∧ H cs = some (.lst (ns.map V.int)) ∧ 0 ≤ i ∧ cs ≠ st
theorem StoreAt.keep {S : List Addr} {H H' : Hp} {st cs : Addr} (s : StoreAt H st cs) (k : Kp S H H') (h : st ∉ S) (h2 : cs ∉ S) : StoreAt H' st cs := by
  obtain ⟨ns, i, big, turn, seed, h1, h3, h4, h5⟩ := s.ex
  exact ⟨ns, i, big, turn, seed, k.get h1 h, k.get h3 h2, h4, h5⟩
theorem StoreAt.keep0 {H H' : Hp} {st cs : Addr} (s : StoreAt H st cs) (k : Kp [] H H') : StoreAt H' st cs := s.keep k (by simp) (by simp)
theorem StoreAt.ne {H : Hp} {st cs a : Addr} (s : StoreAt H st cs) (h : H a = none) : st ≠ a ∧ cs ≠ a := by
  obtain ⟨ns, i, big, turn, seed, h1, h3, h4, h5⟩ := s.ex
  exact ⟨ne_of_none h1 h, ne_of_none h3 h⟩
/-- a thing younger than the store is written -/
theorem StoreAt.putN {H0 H : Hp} {st cs a : Addr} {o : HO} (s0 : StoreAt H0 st cs) (h : H0 a = none) (s : StoreAt H st cs) : StoreAt (upd H a o) st cs := by
  obtain ⟨n1, n2⟩ := s0.ne h
  obtain ⟨ns, i, big, turn, seed, h1, h3, h4, h5⟩ := s.ex
  exact ⟨ns, i, big, turn, seed, by rw [upd_ne n1]; exact h1, by rw [upd_ne n2]; exact h3, h4, h5⟩
def spMixed : Sp := fun vs H Q _ => ∃ a b c : Int, vs = [.int a, .int b, .int c] ∧ ∀ (r : Int) (H' : Hp), Kp [] H H' → Q (.int r) H'
theorem sc_law_mixed : FnScope ["_law_cell", "_law_turn", "_law_seed", "_law_once", "_law_twice"] ["_law_cell", "_law_turn", "_law_seed"] (defScope s_law_mixed) := ⟨rfl, rfl, rfl, by decide +kernel, rfl, by decide +kernel, by decide +kernel⟩
theorem ok_law_mixed {f : Addr} {fd : FuncData} (F : Fun K "_law_mixed" "_law_mixed" s_law_mixed f fd) (T : Txt P K mg) : FnOk P w K mg base CX0 1 f fd ["_law_cell", "_law_turn", "_law_seed"] spMixed := by
  refine F.ok sc_law_mixed ?_ (fun cdv A outer s H vs Q E hr0 h => ?_)
  · walk_at "len"
  obtain ⟨a, b, c, rfl, q⟩ := h
  refine ⟨_, (pss_cons (ps_set (i := 3) sc_law_mixed.nd rfl (Or.inl rfl) (pe_op op_mod (pe_callTy call_intOf (by rfl) T.zint (by decide +kernel) (pa_cons (pe_op opAdd (pe_op opAdd (pe_op opAdd (pe_op op_mul (pe_op op_mod (pe_callTy call_intOf (by rfl) T.zint (by decide +kernel) (pa_cons (pv 0) pa_nil)) pe_int) pe_int) (pe_op op_mul (pv 1) pe_int)) (pv 2)) pe_int) pa_nil)) pe_int)) (pss_cons (ps_set (i := 3) sc_law_mixed.nd rfl (Or.inl rfl) (pe_op op_mod (pe_callTy call_intOf (by rfl) T.zint (by decide +kernel) (pa_cons (pe_op opAdd (pe_op opAdd (pe_op op_mul (pv 3) (pv 3)) (pe_op op_mul (pe_op op_fdiv (pv 3) pe_int) pe_int)) (pv 1)) pa_nil)) pe_int)) (pss_cons (ps_set (i := 4) sc_law_mixed.nd rfl (Or.inl rfl) (pe_op op_mod (pe_callTy call_intOf (by rfl) T.zint (by decide +kernel) (pa_cons (pe_op opAdd (pe_op opAdd (pe_op op_mul (pv 3) pe_int) (pe_op op_fdiv (pv 3) pe_int)) (pv 2)) pa_nil)) pe_int)) (pss_one (ps_ret (pe_op op_fdiv (pv 4) pe_int)))))), ?_⟩
  walk_at "cl"
  walk_at "rd"
  refine r_modG (by decide) fun x1 _ _ => ?_
  walk_at "rd"
  refine r_mulG (.inr (by decide)) fun x2 => ?_
  walk_at "rd"
  refine r_mulG (.inr (by decide)) fun x3 => ?_
  walk_at "rd"
  refine r_modG (by decide) fun x4 h4 g4 => ?_
  walk_at "rd"
  refine r_mulG (.inl ⟨by omega, by omega⟩) fun x5 => ?_
  walk_at "rd"
  refine r_fdivG ⟨by decide, by decide⟩ fun x6 => ?_
  walk_at "rd"
  refine r_mulG (.inr (by decide)) fun x7 => ?_
  walk_at "rd"
  refine r_modG (by decide) fun x8 h8 g8 => ?_
  walk_at "rd"
  refine r_mulG (.inr (by decide)) fun x9 => ?_
  walk_at "rd"
  refine r_fdivG ⟨by decide, by decide⟩ fun y1 => ?_
  walk_at "rd"
  refine r_modG (by decide) fun y2 h4 g4 => ?_
  walk_at "rd"
  refine r_fdivG ⟨by decide, by decide⟩ fun y3 => ?_
  exact q _ _ .refl
/-! ### _law_take -/
def spTake : Sp := fun vs H Q _ => ∃ (st cs : Addr) (m : Int), vs = [.ref st, .int m] ∧ StoreAt H st cs ∧ m < 1000000 ∧ ∀ (r : Int) (H' : Hp), 0 ≤ r → (1 ≤ m → r < m) → Kp [st] H H' → StoreAt H' st cs → Q (.int r) H'
theorem sc_law_take : FnScope ["_law_store_here", "_law_many", "_law_cell", "_law_digit"] ["_law_store_here", "_law_many"] (defScope s_law_take) := ⟨rfl, rfl, rfl, by decide +kernel, rfl, by decide +kernel, by decide +kernel⟩
theorem ok_law_take {f : Addr} {fd : FuncData} (F : Fun K "_law_take" "_law_take" s_law_take f fd) (T : Txt P K mg) (D_law_mixed : Dn P w K mg base CX0 1 "_law_mixed" ["_law_cell", "_law_turn", "_law_seed"] spMixed) : FnOk P w K mg base CX0 2 f fd ["_law_store_here", "_law_many"] spTake := by
  refine F.ok sc_law_take ?_ (fun cdv A outer s H vs Q E hr0 h => ?_)
  · walk_at "len"
  obtain ⟨st, cs, m, rfl, S, hm, q⟩ := h
  obtain ⟨ns, i, big, turn, seed, h1, h2, h3, h4⟩ := S.ex
  refine ⟨_, (pss_cons (ps_if (pt_cmpR op_lt (pv 1) pe_int (nomark _)) (pss_one (ps_ret pe_int)) pss_nil) (Evl.pss_cut (ps_if (pt_cmpR op_eq (pe_ix ix_seq (pv 0) pe_int (fun _ _ => rfl)) pe_int (nomark _)) (pss_cons (ps_set (i := 2) sc_law_take.nd rfl (Or.inl rfl) pe_int) (Evl.pss_cut (ps_if (pt_cmpR op_lt (pe_ix ix_seq (pv 0) pe_int (fun _ _ => rfl)) (pe_callB call_lenA (by rfl) T.zlen (by decide +kernel) (pa_cons (pe_ix ix_seq (pv 0) pe_int (fun _ _ => rfl)) pa_nil)) (nomark _)) (pss_cons (ps_set (i := 2) sc_law_take.nd rfl (Or.inl rfl) (pe_ix ix_seq (pe_ix ix_seq (pv 0) pe_int (fun _ _ => rfl)) (pe_ix ix_seq (pv 0) pe_int (fun _ _ => rfl)) (fun _ _ => rfl))) (pss_one (ps_asg (pe_op opAdd (pe_ix ix_seq (pv 0) pe_int (fun _ _ => rfl)) pe_int) (pg_sub (pv 0) pe_int set_list)))) pss_nil) (pss_cons (ps_if (pt_cmpR op_lt (pv 2) (pe_op op_pow pe_int pe_int) (nomark _)) (pss_cons (ps_asg (pe_op opAdd (pe_ix ix_seq (pv 0) pe_int (fun _ _ => rfl)) pe_int) (pg_sub (pv 0) pe_int set_list)) (pss_one (ps_ret (pe_op op_mod (pe_callTy call_intOf (by rfl) T.zint (by decide +kernel) (pa_cons (pe_d D_law_mixed hr0 pass0 (pa_cons (pv 2) (pa_cons (pe_ix ix_seq (pv 0) pe_int (fun _ _ => rfl)) (pa_cons (pe_ix ix_seq (pv 0) pe_int (fun _ _ => rfl)) pa_nil)))) pa_nil)) (pv 1))))) pss_nil) (pss_one (ps_asg (pv 2) (pg_sub (pv 0) pe_int set_list)))))) pss_nil) (pss_cons (ps_set (i := 3) sc_law_take.nd rfl (Or.inl rfl) (pe_op op_mod (pe_callTy call_intOf (by rfl) T.zint (by decide +kernel) (pa_cons (pe_ix ix_seq (pv 0) pe_int (fun _ _ => rfl)) pa_nil)) (pv 1))) (pss_cons (ps_asg (pe_op op_fdiv (pe_ix ix_seq (pv 0) pe_int (fun _ _ => rfl)) (pv 1)) (pg_sub (pv 0) pe_int set_list)) (pss_one (ps_ret (pv 3))))))), ?_⟩
  walk_at "cl"
  walk_at "rd"
  refine r_d (fun c1 => ?_) (fun c1 => ?_)
  · walk_at "rd"
    exact q 0 _ (by omega) (fun _ => by omega) .refl S
  walk_at "rd"
  have nm : (1 : Int) ≤ m := by omega
  have put : ∀ {H1 : Hp} {xs ys : List V}, Kp [st] H H1 → H1 st = some (.lst xs) → Kp [st] H (upd H1 st (.lst ys)) := fun k e => k.trans (Kp.put (by simp) e (fun z => z))
  have puc : ∀ {H1 : Hp} {ys : List V}, H1 cs = some (.lst (ns.map V.int)) → (upd H1 st (.lst ys)) cs = some (.lst (ns.map V.int)) := fun e => by rw [upd_ne h4]; exact e
  refine r_cut (fun σ' H' => ∃ i' big' turn' cv, σ' = [some (.ref st), some (.int m), cv, none] ∧ Kp [st] H H' ∧ H' st = some (.lst [.ref cs, .int i', .int big', .int turn', .int seed]) ∧ H' cs = some (.lst (ns.map V.int)) ∧ 0 ≤ i') ?_ ?_
  · walk_at "rd"
    refine r_ixL (SqL.of h1) (atI_nat (j := 2) rfl) ?_
    walk_at "rd"
    refine r_d (fun c2 => ?_) (fun c2 => ?_)
    · walk_at "rd"
      refine r_cut (fun σ' H' => ∃ i' cell, σ' = [some (.ref st), some (.int m), some (.int cell), none] ∧ Kp [st] H H' ∧ H' st = some (.lst [.ref cs, .int i', .int big, .int turn, .int seed]) ∧ H' cs = some (.lst (ns.map V.int)) ∧ 0 ≤ i') ?_ ?_
      · walk_at "rd"
        refine r_ixL (SqL.of h1) (atI_nat (j := 1) rfl) ?_
        walk_at "rd"
        refine r_ixL (SqL.of h1) (atI_nat (j := 0) rfl) ?_
        walk_at "rd"
        refine r_lenL (SqL.of h2) ?_
        walk_at "rd"
        refine r_d (fun c3 => ?_) (fun c3 => ?_)
        · walk_at "rd"
          refine r_ixL (SqL.of h1) (atI_nat (j := 0) rfl) ?_
          walk_at "rd"
          refine r_ixL (SqL.of h1) (atI_nat (j := 1) rfl) ?_
          rw [List.length_map] at c3
          obtain ⟨k, rfl⟩ : ∃ k : Nat, i = (k : Int) := ⟨i.toNat, by omega⟩
          have hk : k < ns.length := by omega
          refine r_ixL (v := .int ns[k]) (SqL.of h2) (atI_nat (by rw [List.getElem?_map, List.getElem?_eq_getElem hk]; rfl)) ?_
          walk_at "rd"
          refine r_ixL (SqL.of h1) (atI_nat (j := 1) rfl) ?_
          walk_at "rd"
          refine r_setL (j := 1) h1 rfl ?_
          exact ⟨_, _, rfl, put .refl h1, upd_same, puc h2, by omega⟩
        · walk_at "rd"
          exact ⟨_, _, rfl, .refl, h1, h2, h3⟩
      · rintro σ' H' ⟨i', cell, rfl, k1, e1, e2, e3⟩
        walk_at "rd"
        refine ⟨10, 18, rfl, rfl, ⟨by decide, by decide, by decide⟩, ?_⟩
        walk_at "rd"
        refine r_d (fun c3 => ?_) (fun c3 => ?_)
        · walk_at "rd"
          refine r_ixL (SqL.of e1) (atI_nat (j := 3) rfl) ?_
          walk_at "rd"
          refine r_setL (j := 3) e1 rfl ?_
          walk_at "rd"
          refine r_ixL (SqL.of upd_same) (atI_nat (j := 3) rfl) ?_
          walk_at "rd"
          refine r_ixL (SqL.of upd_same) (atI_nat (j := 4) rfl) ?_
          walk_at "rd"
          refine ⟨_, _, _, rfl, fun r1 H2 k2 => ?_⟩
          walk_at "rd"
          refine r_modG (by omega) fun r h5 h6 => ?_
          refine q r _ h5 (fun _ => h6) ((put k1 e1).trans k2.all) ⟨_, _, _, _, _, k2.get upd_same (by simp), k2.get (puc e2) (by simp), e3, h4⟩
        · walk_at "rd"
          refine r_setL (j := 2) e1 rfl ?_
          exact ⟨_, _, _, _, rfl, put k1 e1, upd_same, puc e2, e3⟩
    · walk_at "rd"
      exact ⟨_, _, _, _, rfl, .refl, h1, h2, h3⟩
  · rintro σ' H' ⟨i', big', turn', cv, rfl, k1, e1, e2, e3⟩
    walk_at "rd"
    refine r_ixL (SqL.of e1) (atI_nat (j := 2) rfl) ?_
    walk_at "rd"
    refine r_modG (by omega) fun r h5 h6 => ?_
    walk_at "rd"
    refine r_ixL (SqL.of e1) (atI_nat (j := 2) rfl) ?_
    walk_at "rd"
    refine r_fdivG ⟨by omega, by omega⟩ fun r2 => ?_
    walk_at "rd"
    refine r_setL (j := 2) e1 rfl ?_
    walk_at "rd"
    exact q r _ h5 (fun _ => h6) (put k1 e1) ⟨_, _, _, _, _, upd_same, puc e2, e3, h4⟩
end
end Hj
end
section
set_option Elab.async false
set_option linter.all false
set_option maxRecDepth 100000
set_option maxHeartbeats 4000000
local macro_rules | `(tactic| walk_at "rd") => `(tactic| repeat (first
  | with_reducible refine Hj.r_seq ?_
  | with_reducible refine Hj.r_nx ?_
  | with_reducible refine Hj.r_rt ?_
  | with_reducible refine L2.iteT ?_
  | with_reducible refine L2.iteF ?_
  | with_reducible refine Hj.r_set ?_
  | with_reducible refine Hj.r_gname ?_
  | with_reducible refine Hj.r_if ?_
  | with_reducible refine Hj.r_ret ?_
  | ((with_reducible show L2.tVar _ _ _ _); refine ⟨_, rfl, ?_⟩)
  | with_reducible refine Hj.r_c ?_
  | with_reducible refine Hj.r_cons ?_
  | with_reducible refine Hj.r_nil ?_
  | with_reducible refine Hj.r_op ?_
  | with_reducible refine Hj.r_test ?_
  | with_reducible refine Hj.r_B ?_
  | with_reducible refine Hj.r_cb ?_
  | with_reducible refine Hj.r_blV ?_
  | with_reducible refine Hj.r_and ?_
  | with_reducible refine Hj.r_or ?_
  | with_reducible refine Hj.r_not ?_
  | with_reducible refine Hj.r_call ?_
  | with_reducible refine Hj.r_tup ?_
  | with_reducible refine Hj.r_lst ?_
  | with_reducible refine Hj.r_eqS ?_
  | with_reducible refine Hj.r_eqI ?_
  | with_reducible refine Hj.r_neS ?_
  | with_reducible refine Hj.r_neI ?_
  | with_reducible refine Hj.r_isN ?_
  | with_reducible refine Hj.r_I0 ?_
  | with_reducible refine Hj.r_addI ?_
  | with_reducible refine Hj.r_intOf ?_
  | with_reducible refine Hj.r_mx ?_
  | with_reducible refine Hj.r_un ?_
  | with_reducible refine Hj.r_neg ?_
  | with_reducible refine Hj.r_drop ?_
  | with_reducible refine Hj.r_next ?_
  | with_reducible refine Hj.r_retN ?_
  | with_reducible refine Hj.r_sub ?_
  | with_reducible refine Hj.r_asg ?_
  | with_reducible refine Hj.r_bm ?_
  | with_reducible refine Hj.r_bm0 ?_
  | with_reducible refine Hj.r_meth ?_
  | with_reducible refine Hj.r_make ?_
  | with_reducible refine Hj.r_fldE ?_
  | with_reducible refine Hj.r_setF ?_
  | with_reducible refine Hj.r_sl ?_
  | with_reducible refine Hj.r_no ?_
  | with_reducible refine Hj.r_part ?_
  | with_reducible refine Hj.r_partI ?_
  | with_reducible refine Hj.r_m1 ?_
  | with_reducible refine Hj.r_strs ?_
  | with_reducible refine Hj.r_andV ?_
  | with_reducible refine Hj.r_orV ?_
  | with_reducible refine Hj.r_notV ?_
  | with_reducible refine Hj.r_for ?_
  | with_reducible refine Hj.r_rng ?_
  | with_reducible refine Hj.r_itL ?_
  | with_reducible refine Hj.r_itT ?_
  | with_reducible refine Hj.r_itS ?_
  | with_reducible refine Hj.r_itSE ?_))
local macro_rules | `(tactic| walk_at "cl") => `(tactic| ((try dsimp only [L2.cxOf, L2.Cx.nox]); simp only [L2.start, List.map, List.length, List.replicate, List.cons_append, List.nil_append, Nat.reduceAdd, Nat.reduceSub]))
local macro_rules | `(tactic| walk_at "len") => `(tactic| (intro vs H Q E h; first
  | (obtain ⟨_, ee, _⟩ := h; subst ee; rfl) | (obtain ⟨_, _, ee, _⟩ := h; subst ee; rfl) | (obtain ⟨_, _, _, ee, _⟩ := h; subst ee; rfl) | (obtain ⟨_, _, _, _, ee, _⟩ := h; subst ee; rfl) | (obtain ⟨_, _, _, _, _, ee, _⟩ := h; subst ee; rfl) | (obtain ⟨_, _, _, _, _, _, ee, _⟩ := h; subst ee; rfl)
  | (obtain ⟨_, _, _, _, _, _, _, ee, _⟩ := h; subst ee; rfl) | (obtain ⟨_, _, _, _, _, _, _, _, ee, _⟩ := h; subst ee; rfl) | (obtain ⟨_, _, _, _, _, _, _, _, _, ee, _⟩ := h; subst ee; rfl) | (obtain ⟨_, _, _, _, _, _, _, _, _, _, ee, _⟩ := h; subst ee; rfl)))
namespace Hj
open PySem PySem.Spec L2
section
variable {P : Program} {w : World} {K : PySem.W.Frag} {mg : Str → Option Value} {base : Heap}
abbrev psTake : List Str := ["_law_store_here", "_law_many"]
/-! ### _law_store -/
def spStore (K : PySem.W.Frag) : Sp := fun vs H Q _ => ∃ (a : Addr) (ns : List Int), vs = [.ref a] ∧ SqL K H a (ns.map V.int) ∧ ns.length ≤ 1000 ∧ ∀ (st cs : Addr) (H' : Hp), Kp [] H H' → StoreAt H' st cs → H st = none → H cs = none → Q (.ref st) H'
theorem sc_law_store : FnScope ["_law_script", "_law_seed", "_law_cell"] ["_law_script"] (defScope s_law_store) := ⟨rfl, rfl, rfl, by decide +kernel, rfl, by decide +kernel, by decide +kernel⟩
theorem ok_law_store {f : Addr} {fd : FuncData} (F : Fun K "_law_store" "_law_store" s_law_store f fd) (T : Txt P K mg) : FnOk P w K mg base CX0 1 f fd ["_law_script"] (spStore K) := by
  refine F.ok sc_law_store ?_ (fun cdv A outer s H vs Q E hr0 h => ?_)
  · walk_at "len"
  obtain ⟨a, ns, rfl, hS, hl, q⟩ := h
  refine ⟨_, (pss_cons (ps_set (i := 1) sc_law_store.nd rfl (Or.inl rfl) pe_int) (pss_cons (ps_for PassesOwn.never rfl (pi_list (pv 0)) (pg_name (i := 2) sc_law_store.nd rfl (Or.inl rfl)) (pss_one (ps_set (i := 1) sc_law_store.nd rfl (Or.inl rfl) (pe_op op_mod (pe_callTy call_intOf (by rfl) T.zint (by decide +kernel) (pa_cons (pe_op opAdd (pe_op opAdd (pe_op op_mul (pv 1) pe_int) (pe_op op_mod (pe_callTy call_intOf (by rfl) T.zint (by decide +kernel) (pa_cons (pv 2) pa_nil)) pe_int)) pe_int) pa_nil)) pe_int)))) (pss_one (ps_ret (pe_lst (pa_cons (pe_callTy call_lstOf (by rfl) T.zlist (by decide +kernel) (pa_cons (pv 0) pa_nil)) (pa_cons pe_int (pa_cons pe_int (pa_cons pe_int (pa_cons (pv 1) pa_nil)))))))))), ?_⟩
  walk_at "cl"
  walk_at "rd"
  refine r_itLE hS ?_
  refine for_list (K := K) (a := a) (xs := ns.map V.int) (fun i σ' H' => ∃ (sd : Int) (v : Option V), σ' = [some (.ref a), some (.int sd), v] ∧ H' = H) ⟨_, _, rfl, rfl⟩ (fun i σ' H' _ ⟨_, _, _, e⟩ => by rw [e]; exact hS) ?_ ?_
  · rintro i x σ' H' hi ⟨sd, v, rfl, rfl⟩
    obtain ⟨n, hn, rfl⟩ : ∃ n, ns[i]? = some n ∧ x = V.int n := by
      rw [List.getElem?_map] at hi
      cases e : ns[i]? with
      | none => rw [e] at hi; cases hi
      | some n => rw [e] at hi; exact ⟨n, rfl, (Option.some.inj hi).symm⟩
    walk_at "rd"
    refine r_mulG (.inr (by decide)) fun x2 => ?_
    walk_at "rd"
    refine r_modG (by decide) fun x3 _ _ => ?_
    walk_at "rd"
    refine r_modG (by decide) fun x4 _ _ => ?_
    exact ⟨_, _, rfl, rfl⟩
  · rintro σ' H' ⟨sd, v, rfl, rfl⟩
    walk_at "rd"
    refine r_lstOfL hS fun p hp => ?_
    walk_at "rd"
    refine r_new (by simp) fun p2 hp2 => ?_
    have hpp : p ≠ p2 := ne_of_none upd_same hp2
    exact q p2 p _ ((Kp.new hp).trans (Kp.new hp2)) ⟨ns, 0, 0, 0, sd, upd_same, by rw [upd_ne hpp]; exact upd_same, by omega, hpp⟩ ((Kp.new hp).free0 hp2) hp
/-! ### _law_number -/
def spNumber : Sp := fun vs H Q _ => ∃ (st cs : Addr) (lo hi : Int), vs = [.ref st, .int lo, .int hi] ∧ StoreAt H st cs ∧ hi - lo < 1000 ∧ ∀ (r : Int) (H' : Hp), lo ≤ r → (lo ≤ hi → r ≤ hi) → Kp [st] H H' → StoreAt H' st cs → Q (.int r) H'
theorem sc_law_number : FnScope ["_law_store_here", "_law_low", "_law_high", "_law_kind"] ["_law_store_here", "_law_low", "_law_high"] (defScope s_law_number) := ⟨rfl, rfl, rfl, by decide +kernel, rfl, by decide +kernel, by decide +kernel⟩
theorem ok_law_number {f : Addr} {fd : FuncData} (F : Fun K "_law_number" "_law_number" s_law_number f fd) (T : Txt P K mg) (D_law_take : Dn P w K mg base CX0 2 "_law_take" psTake spTake) : FnOk P w K mg base CX0 3 f fd ["_law_store_here", "_law_low", "_law_high"] spNumber := by
  refine F.ok sc_law_number ?_ (fun cdv A outer s H vs Q E hr0 h => ?_)
  · walk_at "len"
  obtain ⟨st, cs, lo, hi, rfl, S, hm, q⟩ := h
  refine ⟨_, (pss_cons (ps_set (i := 3) sc_law_number.nd rfl (Or.inl rfl) (pe_d D_law_take hr0 pass0 (pa_cons (pv 0) (pa_cons pe_int pa_nil)))) (pss_cons (ps_if (PW.pt (pw_or (pt_cmpR op_le (pv 2) (pv 1) (nomark _)) (pw_or1 (pt_cmpR op_eq (pv 3) pe_int (nomark _))))) (pss_one (ps_ret (pv 1))) pss_nil) (pss_cons (ps_if (pt_cmpR op_eq (pv 3) pe_int (nomark _)) (pss_one (ps_ret (pv 2))) pss_nil) (pss_one (ps_ret (pe_op opAdd (pv 1) (pe_d D_law_take hr0 pass0 (pa_cons (pv 0) (pa_cons (pe_op opAdd (pe_op op_sub (pv 2) (pv 1)) pe_int) pa_nil))))))))), ?_⟩
  walk_at "cl"
  walk_at "rd"
  refine ⟨st, cs, 6, rfl, S, by omega, fun r H1 h0 h1 k1 S1 => ?_⟩
  walk_at "rd"
  refine r_d (fun c1 => ?_) (fun c1 => ?_)
  · walk_at "rd"
    exact q lo _ (by omega) (fun z => by omega) k1 S1
  walk_at "rd"
  refine r_d (fun c2 => ?_) (fun c2 => ?_)
  · walk_at "rd"
    exact q lo _ (by omega) (fun z => by omega) k1 S1
  walk_at "rd"
  refine r_d (fun c3 => ?_) (fun c3 => ?_)
  · walk_at "rd"
    exact q hi _ (by omega) (fun z => by omega) k1 S1
  walk_at "rd"
  refine ⟨st, cs, _, rfl, S1, by omega, fun r2 H2 h2 h3 k2 S2 => ?_⟩
  walk_at "rd"
  have h4 := h3 (by omega)
  exact q _ _ (by omega) (fun z => by omega) (k1.trans k2) S2
/-! ### _law_pick -/
def spPick (K : PySem.W.Frag) : Sp := fun vs H Q _ => ∃ (st cs a : Addr) (xs : List V), vs = [.ref st, .ref a] ∧ StoreAt H st cs ∧ SqL K H a xs ∧ a ≠ st ∧ xs ≠ [] ∧ xs.length ≤ 10000 ∧ ∀ (v : V) (H' : Hp), v ∈ xs → Kp [st] H H' → StoreAt H' st cs → Q v H'
theorem sc_law_pick : FnScope ["_law_store_here", "_law_some"] ["_law_store_here", "_law_some"] (defScope s_law_pick) := ⟨rfl, rfl, rfl, by decide +kernel, rfl, by decide +kernel, by decide +kernel⟩
theorem ok_law_pick {f : Addr} {fd : FuncData} (F : Fun K "_law_pick" "_law_pick" s_law_pick f fd) (T : Txt P K mg) (D_law_take : Dn P w K mg base CX0 2 "_law_take" psTake spTake) : FnOk P w K mg base CX0 3 f fd ["_law_store_here", "_law_some"] (spPick K) := by
  refine F.ok sc_law_pick ?_ (fun cdv A outer s H vs Q E hr0 h => ?_)
  · walk_at "len"
  obtain ⟨st, cs, a, xs, rfl, S, hx, ha, h0, hl, q⟩ := h
  have hp : 0 < xs.length := List.length_pos_iff.mpr h0
  refine ⟨_, (pss_cons (ps_if (pt_cmpR op_eq (pe_callB call_lenA (by rfl) T.zlen (by decide +kernel) (pa_cons (pv 1) pa_nil)) pe_int (nomark _)) (pss_one (ps_ret pe_non)) pss_nil) (pss_one (ps_ret (pe_ix ix_seq (pv 1) (pe_d D_law_take hr0 pass0 (pa_cons (pv 0) (pa_cons (pe_callB call_lenA (by rfl) T.zlen (by decide +kernel) (pa_cons (pv 1) pa_nil)) pa_nil))) (fun _ _ => rfl))))), ?_⟩
  walk_at "cl"
  walk_at "rd"
  refine r_lenL hx ?_
  walk_at "rd"
  refine r_d (fun c1 => absurd c1 (by omega)) (fun c1 => ?_)
  walk_at "rd"
  refine r_lenL hx ?_
  walk_at "rd"
  refine ⟨st, cs, _, rfl, S, by omega, fun r H1 h1 h2 k1 S1 => ?_⟩
  have h3 := h2 (by omega)
  obtain ⟨k, rfl⟩ : ∃ k : Nat, r = (k : Int) := ⟨r.toNat, by omega⟩
  have hk : k < xs.length := by omega
  refine r_ixL (v := xs[k]) (k1.sqL hx (by simpa using ha)) (atI_nat (List.getElem?_eq_getElem hk)) ?_
  exact q _ _ (List.getElem_mem hk) k1 S1
/-! ### names -/
theorem nm_iff (z : Str) : isNm z = true ↔ ∃ c r, z.cps.toList = c :: r ∧ c ∈ letters ∧ (∀ x ∈ z.cps.toList, x ∈ signs36) ∧ z.cps.toList.length ≤ 8 := by
  unfold isNm
  rw [← cps_len]
  cases h : z.cps.toList with
  | nil => simp
  | cons c r =>
    constructor
    · intro h1
      simp at h1
      refine ⟨c, r, rfl, h1.2.1, ?_, by simp; omega⟩
      simpa using h1.2.2
    · rintro ⟨c', r', e, h1, h2, h3⟩
      cases e
      simp at h2 h3 ⊢
      exact ⟨by omega, h1, h2⟩
def spName : Sp := fun vs H Q _ => ∃ (st cs : Addr), vs = [.ref st] ∧ StoreAt H st cs ∧ ∀ (z : Str) (H' : Hp), isNm z = true → Kp [st] H H' → StoreAt H' st cs → Q (.str z) H'
theorem lad_at {k : Nat} (hk : k < 36) : ∃ c, sLAD.cps.toList[k]? = some c ∧ c ∈ signs36 ∧ (k < 26 → c ∈ letters) := by
  have e : sLAD.cps.toList = signs36 := lad_codes
  rw [e]
  have hl : signs36.length = 36 := by decide +kernel
  refine ⟨signs36[k], List.getElem?_eq_getElem (by omega), List.getElem_mem _, fun h => ?_⟩
  have hz : signs36[k] = letters[k]'(by have : letters.length = 26 := by decide +kernel
                                        omega) := List.getElem_append_left _
  rw [hz]
  exact List.getElem_mem _
theorem sc_law_name : FnScope ["_law_store_here", "_law_letters", "_law_made", "_law_k"] ["_law_store_here"] (defScope s_law_name) := ⟨rfl, rfl, rfl, by decide +kernel, rfl, by decide +kernel, by decide +kernel⟩
theorem ok_law_name {f : Addr} {fd : FuncData} (F : Fun K "_law_name" "_law_name" s_law_name f fd) (T : Txt P K mg) (D_law_take : Dn P w K mg base CX0 3 "_law_take" psTake spTake)
    (D_law_number : Dn P w K mg base CX0 3 "_law_number" ["_law_store_here", "_law_low", "_law_high"] spNumber) : FnOk P w K mg base CX0 4 f fd ["_law_store_here"] spName := by
  refine F.ok sc_law_name ?_ (fun cdv A outer s H vs Q E hr0 h => ?_)
  · walk_at "len"
  obtain ⟨st, cs, rfl, S, q⟩ := h
  refine ⟨_, (pss_cons (ps_set (i := 1) sc_law_name.nd rfl (Or.inl rfl) pe_str) (pss_cons (ps_set (i := 2) sc_law_name.nd rfl (Or.inl rfl) (pe_ix ix_seq (pv 1) (pe_d D_law_take hr0 pass0 (pa_cons (pv 0) (pa_cons pe_int pa_nil))) (fun _ _ => rfl))) (pss_cons (ps_for PassesOwn.never rfl (pi_range1 rfl T.zrange (pa_cons (pe_d D_law_number hr0 pass0 (pa_cons (pv 0) (pa_cons pe_int (pa_cons pe_int pa_nil)))) pa_nil)) (pg_name (i := 3) sc_law_name.nd rfl (Or.inl rfl)) (pss_one (ps_set (i := 2) sc_law_name.nd rfl (Or.inl rfl) (pe_op opAdd (pv 2) (pe_ix ix_seq (pv 1) (pe_d D_law_take hr0 pass0 (pa_cons (pv 0) (pa_cons pe_int pa_nil))) (fun _ _ => rfl)))))) (pss_one (ps_ret (pv 2)))))), ?_⟩
  walk_at "cl"
  walk_at "rd"
  refine ⟨st, cs, 26, rfl, S, by omega, fun r H1 h1 h2 k1 S1 => ?_⟩
  have h3 := h2 (by omega)
  obtain ⟨k, rfl⟩ : ∃ k : Nat, r = (k : Int) := ⟨r.toNat, by omega⟩
  obtain ⟨c0, e0, e1, e2⟩ := lad_at (k := k) (by omega)
  refine r_ixS (c := c0) (by decide +kernel) (atI_nat e0) ?_
  walk_at "rd"
  refine ⟨st, cs, 0, 7, rfl, S1, by omega, fun n H2 h4 h5 k2 S2 => ?_⟩
  have h6 := h5 (by omega)
  refine r_rngE (by omega) (by omega) ?_
  refine for_range (lo := 0) (n := n.toNat) (fun i σ' H' => ∃ (z : Str) (v : Option V), σ' = [some (.ref st), some (.str sLAD), some (.str z), v] ∧ Kp [st] H H' ∧ StoreAt H' st cs ∧ (∃ r, z.cps.toList = c0 :: r) ∧ (∀ x ∈ z.cps.toList, x ∈ signs36) ∧ z.cps.toList.length = i + 1)
    ⟨⟨#[c0]⟩, _, rfl, k1.trans k2, S2, ⟨[], rfl⟩, by simpa using e1, rfl⟩ ?_ ?_
  · rintro i σ' H' hi ⟨z, v, rfl, k3, S3, ⟨r, er⟩, hx, hl⟩
    walk_at "rd"
    refine ⟨st, cs, 36, rfl, S3, by omega, fun r2 H3 g1 g2 k4 S4 => ?_⟩
    have g3 := g2 (by omega)
    obtain ⟨k', rfl⟩ : ∃ k : Nat, r2 = (k : Int) := ⟨r2.toNat, by omega⟩
    obtain ⟨c1, f0, f1, f2⟩ := lad_at (k := k') (by omega)
    refine r_ixS (c := c1) (by decide +kernel) (atI_nat f0) ?_
    have hz : z.length = i + 1 := by rw [← cps_len]; exact hl
    refine r_addS (by rw [hz]; show i + 1 + 1 ≤ 1000000; omega) ?_
    have ecs : (z ++ (⟨#[c1]⟩ : Str)).cps.toList = z.cps.toList ++ [c1] := TL.tl_append z ⟨#[c1]⟩
    refine ⟨_, _, rfl, k3.trans k4, S4, ⟨r ++ [c1], by rw [ecs, er]; rfl⟩, fun x hx2 => ?_, by rw [ecs, List.length_append, hl]; rfl⟩
    rw [ecs] at hx2
    rcases List.mem_append.mp hx2 with h | h
    · exact hx x h
    · have : x = c1 := by simpa using h
      rw [this]; exact f1
  · rintro σ' H' ⟨z, v, rfl, k3, S3, ⟨r, er⟩, hx, hl⟩
    walk_at "rd"
    exact q z _ ((nm_iff z).mpr ⟨c0, r, er, e2 (by omega), hx, by omega⟩) k3 S3
end
end Hj
end
section
set_option Elab.async false
set_option linter.all false
set_option maxRecDepth 100000
set_option maxHeartbeats 4000000
local macro_rules | `(tactic| walk_at "rd") => `(tactic| repeat (first
  | with_reducible refine Hj.r_seq ?_
  | with_reducible refine Hj.r_nx ?_
  | with_reducible refine Hj.r_rt ?_
  | with_reducible refine L2.iteT ?_
  | with_reducible refine L2.iteF ?_
  | with_reducible refine Hj.r_set ?_
  | with_reducible refine Hj.r_gname ?_
  | with_reducible refine Hj.r_if ?_
  | with_reducible refine Hj.r_ret ?_
  | ((with_reducible show L2.tVar _ _ _ _); refine ⟨_, rfl, ?_⟩)
  | with_reducible refine Hj.r_c ?_
  | with_reducible refine Hj.r_cons ?_
  | with_reducible refine Hj.r_nil ?_
  | with_reducible refine Hj.r_op ?_
  | with_reducible refine Hj.r_test ?_
  | with_reducible refine Hj.r_B ?_
  | with_reducible refine Hj.r_cb ?_
  | with_reducible refine Hj.r_blV ?_
  | with_reducible refine Hj.r_and ?_
  | with_reducible refine Hj.r_or ?_
  | with_reducible refine Hj.r_not ?_
  | with_reducible refine Hj.r_call ?_
  | with_reducible refine Hj.r_tup ?_
  | with_reducible refine Hj.r_lst ?_
  | with_reducible refine Hj.r_eqS ?_
  | with_reducible refine Hj.r_eqI ?_
  | with_reducible refine Hj.r_neS ?_
  | with_reducible refine Hj.r_neI ?_
  | with_reducible refine Hj.r_isN ?_
  | with_reducible refine Hj.r_I0 ?_
  | with_reducible refine Hj.r_addI ?_
  | with_reducible refine Hj.r_intOf ?_
  | with_reducible refine Hj.r_mx ?_
  | with_reducible refine Hj.r_un ?_
  | with_reducible refine Hj.r_neg ?_
  | with_reducible refine Hj.r_drop ?_
  | with_reducible refine Hj.r_next ?_
  | with_reducible refine Hj.r_retN ?_
  | with_reducible refine Hj.r_sub ?_
  | with_reducible refine Hj.r_asg ?_
  | with_reducible refine Hj.r_bm ?_
  | with_reducible refine Hj.r_bm0 ?_
  | with_reducible refine Hj.r_meth ?_
  | with_reducible refine Hj.r_make ?_
  | with_reducible refine Hj.r_fldE ?_
  | with_reducible refine Hj.r_setF ?_
  | with_reducible refine Hj.r_sl ?_
  | with_reducible refine Hj.r_no ?_
  | with_reducible refine Hj.r_part ?_
  | with_reducible refine Hj.r_partI ?_
  | with_reducible refine Hj.r_m1 ?_
  | with_reducible refine Hj.r_strs ?_
  | with_reducible refine Hj.r_andV ?_
  | with_reducible refine Hj.r_orV ?_
  | with_reducible refine Hj.r_notV ?_
  | with_reducible refine Hj.r_for ?_
  | with_reducible refine Hj.r_rng ?_
  | with_reducible refine Hj.r_itL ?_
  | with_reducible refine Hj.r_itT ?_
  | with_reducible refine Hj.r_itS ?_
  | with_reducible refine Hj.r_itSE ?_))
local macro_rules | `(tactic| walk_at "cl") => `(tactic| ((try dsimp only [L2.cxOf, L2.Cx.nox]); simp only [L2.start, List.map, List.length, List.replicate, List.cons_append, List.nil_append, Nat.reduceAdd, Nat.reduceSub]))
local macro_rules | `(tactic| walk_at "len") => `(tactic| (intro vs H Q E h; first
  | (obtain ⟨_, ee, _⟩ := h; subst ee; rfl) | (obtain ⟨_, _, ee, _⟩ := h; subst ee; rfl) | (obtain ⟨_, _, _, ee, _⟩ := h; subst ee; rfl) | (obtain ⟨_, _, _, _, ee, _⟩ := h; subst ee; rfl) | (obtain ⟨_, _, _, _, _, ee, _⟩ := h; subst ee; rfl) | (obtain ⟨_, _, _, _, _, _, ee, _⟩ := h; subst ee; rfl)
  | (obtain ⟨_, _, _, _, _, _, _, ee, _⟩ := h; subst ee; rfl) | (obtain ⟨_, _, _, _, _, _, _, _, ee, _⟩ := h; subst ee; rfl) | (obtain ⟨_, _, _, _, _, _, _, _, _, ee, _⟩ := h; subst ee; rfl) | (obtain ⟨_, _, _, _, _, _, _, _, _, _, ee, _⟩ := h; subst ee; rfl)))
namespace Hj
open PySem PySem.Spec L2
/-! ### names, sign by sign -/
def NmL (l : List Nat) : Prop := (∃ c r, l = c :: r ∧ c ∈ letters) ∧ ∀ x ∈ l, x ∈ signs36
theorem nm_of {z : Str} (h : NmL z.cps.toList) (hl : z.length ≤ 8) : isNm z = true := by
  obtain ⟨⟨c, r, e, hc⟩, ha⟩ := h
  exact (nm_iff z).mpr ⟨c, r, e, hc, ha, by rw [cps_len]; exact hl⟩
theorem nm_to {z : Str} (h : isNm z = true) : NmL z.cps.toList ∧ 1 ≤ z.length ∧ z.length ≤ 8 := by
  obtain ⟨c, r, e, hc, ha, hl⟩ := (nm_iff z).mp h
  refine ⟨⟨⟨c, r, e, hc⟩, ha⟩, ?_, by rw [← cps_len]; exact hl⟩
  rw [← cps_len, e]
  simp
theorem NmL.take {l : List Nat} (h : NmL l) (n : Nat) (hn : 1 ≤ n) : NmL (l.take n) := by
  obtain ⟨⟨c, r, rfl, hc⟩, ha⟩ := h
  obtain ⟨k, rfl⟩ : ∃ k, n = k + 1 := ⟨n - 1, by omega⟩
  exact ⟨⟨c, r.take k, rfl, hc⟩, fun x hx => ha x (List.mem_of_mem_take hx)⟩
theorem NmL.app {l m : List Nat} (h : NmL l) (hm : ∀ x ∈ m, x ∈ signs36) : NmL (l ++ m) := by
  obtain ⟨⟨c, r, rfl, hc⟩, ha⟩ := h
  refine ⟨⟨c, r ++ m, rfl, hc⟩, fun x hx => ?_⟩
  rcases List.mem_append.mp hx with h | h
  · exact ha x h
  · exact hm x h
theorem cut_to (z : Str) (k : Nat) : (cutS z none (some (k : Int))).cps.toList = z.cps.toList.take k := by
  unfold cutS
  rw [HT.sIx_nat, HT.sIx_none]
  simp only [Nat.sub_zero, List.drop_zero]
  rw [List.take_eq_take_iff, cps_len]
  omega
theorem cut_from (z : Str) (k : Nat) : (cutS z (some (k : Int)) none).cps.toList = z.cps.toList.drop k := by
  unfold cutS
  rw [HT.sIx_nat, HT.sIx_none]
  simp only []
  by_cases h : k ≤ z.length
  · rw [Nat.min_eq_left h, List.take_of_length_le (by rw [List.length_drop, cps_len]; omega)]
  · have h2 : z.cps.toList.length ≤ k := by rw [cps_len]; omega
    rw [Nat.min_eq_right (by omega), Nat.sub_self, List.take_zero, List.drop_eq_nil_of_le h2]
theorem len_cps {z : Str} {l : List Nat} (h : z.cps.toList = l) : z.length = l.length := by rw [← cps_len, h]
theorem app_cps (x y : Str) : (x ++ y).cps.toList = x.cps.toList ++ y.cps.toList := TL.tl_append x y
theorem num_cps {n : Nat} (h : n < 10) : (toString ((n : Nat) : Int) : Str).cps.toList = [48 + n] := by
  have := TL.tl_num n
  rw [TL.numL_lt h] at this
  exact this
theorem dig36 {n : Nat} (h : n < 10) : 48 + n ∈ signs36 := by
  unfold signs36
  exact List.mem_append_right _ (List.mem_map.mpr ⟨n, List.mem_range.mpr h, by omega⟩)
section
variable {P : Program} {w : World} {K : PySem.W.Frag} {mg : Str → Option Value} {base : Heap}
theorem flat_strs (ts : List Str) : (ts.map V.str).all flatV = true := by
  rw [List.all_map, List.all_eq_true]
  intro _ _
  rfl
theorem inV_strs (z : Str) (ts : List Str) : inV (.str z) (ts.map V.str) = ts.contains z := by
  unfold inV
  rw [List.any_map, Bool.eq_iff_iff, List.any_eq_true]
  simp only [List.contains_iff_mem]
  constructor
  · rintro ⟨x, hx, e⟩
    have : x = z := by simpa [eqV] using e
    rw [← this]; exact hx
  · intro h
    exact ⟨z, h, by simp [eqV]⟩
/-! ### _law_unlike -/
def spUnlike (K : PySem.W.Frag) : Sp := fun vs H Q _ => ∃ (z : Str) (a : Addr) (ts : List Str), vs = [.str z, .ref a] ∧ SqL K H a (ts.map V.str) ∧ ts.length ≤ 9 ∧ isNm z = true ∧ ∀ (y : Str) (H' : Hp), isNm y = true → Kp [] H H' → Q (.str y) H'
theorem sc_law_unlike : FnScope ["_law_word", "_law_taken", "_law_k"] ["_law_word", "_law_taken"] (defScope s_law_unlike) := ⟨rfl, rfl, rfl, by decide +kernel, rfl, by decide +kernel, by decide +kernel⟩
theorem ok_law_unlike {f : Addr} {fd : FuncData} (F : Fun K "_law_unlike" "_law_unlike" s_law_unlike f fd) (T : Txt P K mg) : FnOk P w K mg base CX0 1 f fd ["_law_word", "_law_taken"] (spUnlike K) := by
  refine F.ok sc_law_unlike ?_ (fun cdv A outer s H vs Q E hr0 h => ?_)
  · walk_at "len"
  obtain ⟨z, a, ts, rfl, hx, hl, hz, q⟩ := h
  obtain ⟨hN, hz1, hz8⟩ := nm_to hz
  refine ⟨_, (pss_cons (ps_if (pt_cmpR opNotIn (pv 0) (pv 1) (by rfl)) (pss_one (ps_ret (pv 0))) pss_nil) (pss_cons (ps_for PassesOwn.never rfl (pi_range1 rfl T.zrange (pa_cons (pe_op opAdd (pe_callB call_lenA (by rfl) T.zlen (by decide +kernel) (pa_cons (pv 1) pa_nil)) pe_int) pa_nil)) (pg_name (i := 2) sc_law_unlike.nd rfl (Or.inl rfl)) (pss_one (ps_if (pt_cmpR opNotIn (pe_op opAdd (pe_slice slAny (pv 0) po_none (po_some pe_int)) (pe_callTy call_strI (by rfl) T.zstr (by decide +kernel) (pa_cons (pv 2) pa_nil))) (pv 1) (by rfl)) (pss_one (ps_ret (pe_op opAdd (pe_slice slAny (pv 0) po_none (po_some pe_int)) (pe_callTy call_strI (by rfl) T.zstr (by decide +kernel) (pa_cons (pv 2) pa_nil))))) pss_nil))) (pss_one (ps_ret (pv 0))))), ?_⟩
  walk_at "cl"
  walk_at "rd"
  refine r_ninL hx rfl (flat_strs ts) ?_
  walk_at "rd"
  refine r_b (fun c1 => ?_) (fun c1 => ?_)
  · walk_at "rd"
    exact q z _ hz .refl
  walk_at "rd"
  refine r_lenL hx ?_
  walk_at "rd"
  rw [List.length_map]
  refine r_rngE (by omega) (by omega) ?_
  have made : ∀ k : Nat, k < 10 → isNm (cutS z none (some 6) ++ (toString ((k : Nat) : Int) : Str)) = true ∧ (cutS z none (some 6)).length + (toString ((k : Nat) : Int) : Str).length ≤ 1000000 := fun k hk => by
    have e6 := cut_to z 6
    have e1 := num_cps hk
    refine ⟨nm_of ?_ ?_, ?_⟩
    · rw [app_cps, show (cutS z none (some 6)).cps.toList = z.cps.toList.take 6 from e6, e1]
      exact (hN.take 6 (by omega)).app fun x hx => by
        have : x = 48 + k := by simpa using hx
        rw [this]; exact dig36 hk
    · rw [len_cps (app_cps _ _), List.length_append, show (cutS z none (some 6)).cps.toList = z.cps.toList.take 6 from e6, e1, List.length_take]
      show min 6 _ + 1 ≤ 8
      omega
    · rw [len_cps (show (cutS z none (some 6)).cps.toList = z.cps.toList.take 6 from e6), len_cps e1, List.length_take]
      show min 6 _ + 1 ≤ _
      omega
  refine for_range (lo := 0) (n := (ts.length + 1 : Int).toNat) (fun i σ' H' => ∃ v, σ' = [some (.str z), some (.ref a), v] ∧ H' = H) ⟨_, rfl, rfl⟩ ?_ ?_
  · rintro i σ' H' hi ⟨v, rfl, rfl⟩
    obtain ⟨m1, m2⟩ := made i (by omega)
    walk_at "rd"
    refine r_slS (by omega) ?_
    walk_at "rd"
    rw [Int.zero_add]
    refine r_strI (by omega) (by omega) ?_
    refine r_addS m2 ?_
    walk_at "rd"
    refine r_ninL hx rfl (flat_strs ts) ?_
    walk_at "rd"
    refine r_b (fun c1 => ?_) (fun c1 => ?_)
    · walk_at "rd"
      refine r_slS (by omega) ?_
      walk_at "rd"
      refine r_strI (by omega) (by omega) ?_
      refine r_addS m2 ?_
      exact q _ _ m1 .refl
    · walk_at "rd"
      exact ⟨_, rfl, rfl⟩
  · rintro σ' H' ⟨v, rfl, rfl⟩
    walk_at "rd"
    exact q z _ hz .refl
end
end Hj
end
section
set_option Elab.async false
set_option linter.all false
set_option maxRecDepth 100000
set_option maxHeartbeats 8000000
local macro_rules | `(tactic| walk_at "rd") => `(tactic| repeat (first
  | with_reducible refine Hj.r_seq ?_
  | with_reducible refine Hj.r_nx ?_
  | with_reducible refine Hj.r_rt ?_
  | with_reducible refine L2.iteT ?_
  | with_reducible refine L2.iteF ?_
  | with_reducible refine Hj.r_set ?_
  | with_reducible refine Hj.r_gname ?_
  | with_reducible refine Hj.r_if ?_
  | with_reducible refine Hj.r_ret ?_
  | ((with_reducible show L2.tVar _ _ _ _); refine ⟨_, rfl, ?_⟩)
  | with_reducible refine Hj.r_c ?_
  | with_reducible refine Hj.r_cons ?_
  | with_reducible refine Hj.r_nil ?_
  | with_reducible refine Hj.r_op ?_
  | with_reducible refine Hj.r_test ?_
  | with_reducible refine Hj.r_B ?_
  | with_reducible refine Hj.r_cb ?_
  | with_reducible refine Hj.r_blV ?_
  | with_reducible refine Hj.r_and ?_
  | with_reducible refine Hj.r_or ?_
  | with_reducible refine Hj.r_not ?_
  | with_reducible refine Hj.r_call ?_
  | with_reducible refine Hj.r_tup ?_
  | with_reducible refine Hj.r_lst ?_
  | with_reducible refine Hj.r_eqS ?_
  | with_reducible refine Hj.r_eqI ?_
  | with_reducible refine Hj.r_neS ?_
  | with_reducible refine Hj.r_neI ?_
  | with_reducible refine Hj.r_isN ?_
  | with_reducible refine Hj.r_I0 ?_
  | with_reducible refine Hj.r_addI ?_
  | with_reducible refine Hj.r_intOf ?_
  | with_reducible refine Hj.r_mx ?_
  | with_reducible refine Hj.r_un ?_
  | with_reducible refine Hj.r_neg ?_
  | with_reducible refine Hj.r_drop ?_
  | with_reducible refine Hj.r_next ?_
  | with_reducible refine Hj.r_retN ?_
  | with_reducible refine Hj.r_sub ?_
  | with_reducible refine Hj.r_asg ?_
  | with_reducible refine Hj.r_bm ?_
  | with_reducible refine Hj.r_bm0 ?_
  | with_reducible refine Hj.r_meth ?_
  | with_reducible refine Hj.r_make ?_
  | with_reducible refine Hj.r_fldE ?_
  | with_reducible refine Hj.r_setF ?_
  | with_reducible refine Hj.r_sl ?_
  | with_reducible refine Hj.r_no ?_
  | with_reducible refine Hj.r_part ?_
  | with_reducible refine Hj.r_partI ?_
  | with_reducible refine Hj.r_m1 ?_
  | with_reducible refine Hj.r_strs ?_
  | with_reducible refine Hj.r_andV ?_
  | with_reducible refine Hj.r_orV ?_
  | with_reducible refine Hj.r_notV ?_
  | with_reducible refine Hj.r_for ?_
  | with_reducible refine Hj.r_rng ?_
  | with_reducible refine Hj.r_itL ?_
  | with_reducible refine Hj.r_itT ?_
  | with_reducible refine Hj.r_itS ?_
  | with_reducible refine Hj.r_itSE ?_))
local macro_rules | `(tactic| walk_at "cl") => `(tactic| ((try dsimp only [L2.cxOf, L2.Cx.nox]); simp only [L2.start, List.map, List.length, List.replicate, List.cons_append, List.nil_append, Nat.reduceAdd, Nat.reduceSub]))
local macro_rules | `(tactic| walk_at "len") => `(tactic| (intro vs H Q E h; first
  | (obtain ⟨_, ee, _⟩ := h; subst ee; rfl) | (obtain ⟨_, _, ee, _⟩ := h; subst ee; rfl) | (obtain ⟨_, _, _, ee, _⟩ := h; subst ee; rfl) | (obtain ⟨_, _, _, _, ee, _⟩ := h; subst ee; rfl) | (obtain ⟨_, _, _, _, _, ee, _⟩ := h; subst ee; rfl) | (obtain ⟨_, _, _, _, _, _, ee, _⟩ := h; subst ee; rfl)
  | (obtain ⟨_, _, _, _, _, _, _, ee, _⟩ := h; subst ee; rfl) | (obtain ⟨_, _, _, _, _, _, _, _, ee, _⟩ := h; subst ee; rfl) | (obtain ⟨_, _, _, _, _, _, _, _, _, ee, _⟩ := h; subst ee; rfl) | (obtain ⟨_, _, _, _, _, _, _, _, _, _, ee, _⟩ := h; subst ee; rfl)))
namespace Hj
open PySem PySem.Spec L2
section
variable {P : Program} {w : World} {K : PySem.W.Frag} {mg : Str → Option Value} {base : Heap}
/-! ### _law_names -/
def menu1 : List Str := ["join", "clear", "end", "if", "do", "else", "while", "until", "each", "not", "open", "together"]
def menu2 : List Str := ["world", "history", "strife", "given", "apart", "deed"]
theorem menu_ok : ∀ x ∈ menu1 ++ menu2, isNm x = true := by decide +kernel
def spNames : Sp := fun vs H Q _ => ∃ (st cs : Addr) (m : Int), vs = [.ref st, .int m] ∧ StoreAt H st cs ∧ 1 ≤ m ∧ m ≤ 6 ∧ ∀ (a : Addr) (ns : List Str) (H' : Hp), ns ≠ [] → ns.length ≤ 6 → (∀ z ∈ ns, isNm z = true) → H a = none → H' a = some (.lst (ns.map V.str)) → Kp [st] H H' → StoreAt H' st cs → Q (.ref a) H'
theorem sc_law_names : FnScope ["_law_store_here", "_law_many", "_law_menu", "_law_style", "_law_body", "_law_spot", "_law_made", "_law_k", "_law_word"] ["_law_store_here", "_law_many"] (defScope s_law_names) := ⟨rfl, rfl, rfl, by decide +kernel, rfl, by decide +kernel, by decide +kernel⟩
theorem ok_law_names {f : Addr} {fd : FuncData} (F : Fun K "_law_names" "_law_names" s_law_names f fd) (T : Txt P K mg) (D_law_take : Dn P w K mg base CX0 4 "_law_take" psTake spTake)
    (D_law_name : Dn P w K mg base CX0 4 "_law_name" ["_law_store_here"] spName) (D_law_unlike : Dn P w K mg base CX0 4 "_law_unlike" ["_law_word", "_law_taken"] (spUnlike K)) : FnOk P w K mg base CX0 5 f fd ["_law_store_here", "_law_many"] spNames := by
  refine F.ok sc_law_names ?_ (fun cdv A outer s H vs Q E hr0 h => ?_)
  · walk_at "len"
  obtain ⟨st, cs, m, rfl, S, hm1, hm6, q⟩ := h
  refine ⟨_, (pss_cons (ps_set (i := 2) sc_law_names.nd rfl (Or.inl rfl) (pe_lst (pa_cons pe_str (pa_cons pe_str (pa_cons pe_str (pa_cons pe_str (pa_cons pe_str (pa_cons pe_str (pa_cons pe_str (pa_cons pe_str (pa_cons pe_str (pa_cons pe_str (pa_cons pe_str (pa_cons pe_str pa_nil)))))))))))))) (pss_cons (ps_set (i := 2) sc_law_names.nd rfl (Or.inl rfl) (pe_op opAdd (pv 2) (pe_lst (pa_cons pe_str (pa_cons pe_str (pa_cons pe_str (pa_cons pe_str (pa_cons pe_str (pa_cons pe_str pa_nil))))))))) (pss_cons (ps_set (i := 3) sc_law_names.nd rfl (Or.inl rfl) (pe_d D_law_take hr0 pass0 (pa_cons (pv 0) (pa_cons pe_int pa_nil)))) (pss_cons (ps_set (i := 4) sc_law_names.nd rfl (Or.inl rfl) (pe_slice slAny (pe_op opAdd (pe_d D_law_name hr0 pass0 (pa_cons (pv 0) pa_nil)) pe_str) po_none (po_some pe_int))) (pss_cons (ps_set (i := 5) sc_law_names.nd rfl (Or.inl rfl) (pe_d D_law_take hr0 pass0 (pa_cons (pv 0) (pa_cons (pe_op opAdd (pe_callB call_lenA (by rfl) T.zlen (by decide +kernel) (pa_cons (pv 4) pa_nil)) pe_int) pa_nil)))) (pss_cons (ps_set (i := 6) sc_law_names.nd rfl (Or.inl rfl) (pe_lst pa_nil)) (pss_cons (ps_for PassesOwn.never rfl (pi_range1 rfl T.zrange (pa_cons (pv 1) pa_nil)) (pg_name (i := 7) sc_law_names.nd rfl (Or.inl rfl)) (pss_cons (ps_set (i := 8) sc_law_names.nd rfl (Or.inl rfl) (pe_d D_law_name hr0 pass0 (pa_cons (pv 0) pa_nil))) (Evl.pss_cut (ps_if (pt_cmpR op_eq (pv 3) pe_int (nomark _)) (pss_one (ps_set (i := 8) sc_law_names.nd rfl (Or.inl rfl) (pe_slice slAny (pv 8) po_none (po_some pe_int)))) (pss_one (ps_if (PW.pt (pw_and (pt_cmpR op_eq (pv 3) pe_int (nomark _)) (pw_and1 (pt_cmpR op_eq (pv 5) pe_int (nomark _))))) (pss_one (ps_set (i := 8) sc_law_names.nd rfl (Or.inl rfl) (pe_op opAdd (pe_slice slAny (pv 8) po_none (po_some pe_int)) (pv 4)))) (pss_one (ps_if (pt_cmpR op_eq (pv 3) pe_int (nomark _)) (pss_one (ps_set (i := 8) sc_law_names.nd rfl (Or.inl rfl) (pe_op opAdd (pe_op opAdd (pe_slice slAny (pv 4) po_none (po_some (pv 5))) (pe_ix ix_seq (pv 8) (pe_un un_neg pe_int) (fun _ _ => rfl))) (pe_slice slAny (pv 4) (po_some (pv 5)) po_none)))) (pss_one (ps_if (pt_cmpR op_eq (pv 3) pe_int (nomark _)) (pss_one (ps_set (i := 8) sc_law_names.nd rfl (Or.inl rfl) (pe_slice slAny (pe_op opAdd (pv 4) pe_str) po_none (po_some (pe_op opAdd pe_int (pe_d D_law_take hr0 pass0 (pa_cons (pv 0) (pa_cons pe_int pa_nil)))))))) (pss_one (ps_if (pt_cmpR op_eq (pv 3) pe_int (nomark _)) (pss_one (ps_set (i := 8) sc_law_names.nd rfl (Or.inl rfl) (pe_ix ix_seq (pv 2) (pe_d D_law_take hr0 pass0 (pa_cons (pv 0) (pa_cons pe_int pa_nil))) (fun _ _ => rfl)))) pss_nil))))))))) (pss_one (ps_expr (pe_bm PySem.F.plainAttrs_list PySem.F.slot_list_append PySem.F.type_list_append mt_append (pv 6) (pa_cons (pe_d D_law_unlike hr0 pass0 (pa_cons (pv 8) (pa_cons (pv 6) pa_nil))) pa_nil))))))) (pss_one (ps_ret (pv 6)))))))))), ?_⟩
  walk_at "cl"
  walk_at "rd"
  refine r_new (by simp) fun p1 n1 => ?_
  walk_at "rd"
  refine r_new (by simp) fun p2 n2 => ?_
  have n12 : p1 ≠ p2 := ne_of_none upd_same n2
  refine r_addL (xs := menu1.map V.str) (ys := menu2.map V.str) (by rw [upd_ne n12]; exact upd_same) upd_same (by decide +kernel) fun p3 n3 => ?_
  have k3 : Kp [] H (upd (upd (upd H p1 (.lst (menu1.map V.str))) p2 (.lst (menu2.map V.str))) p3 (.lst (menu1.map V.str ++ menu2.map V.str))) := ((Kp.new n1).trans (Kp.new n2)).trans (Kp.new n3)
  have e3 : (upd (upd (upd H p1 (.lst (menu1.map V.str))) p2 (.lst (menu2.map V.str))) p3 (.lst (menu1.map V.str ++ menu2.map V.str))) p3 = some (.lst ((menu1 ++ menu2).map V.str)) := by rw [upd_same, List.map_append]
  have f3 : H p3 = none := ((Kp.new n1).trans (Kp.new n2)).free0 n3
  have S3 := S.keep0 k3
  show tSeq _ _ _ _ (upd (upd (upd H p1 (.lst (menu1.map V.str))) p2 (.lst (menu2.map V.str))) p3 (.lst (menu1.map V.str ++ menu2.map V.str)))
  generalize (upd (upd (upd H p1 (.lst (menu1.map V.str))) p2 (.lst (menu2.map V.str))) p3 (.lst (menu1.map V.str ++ menu2.map V.str))) = H3 at k3 e3 S3
  walk_at "rd"
  refine ⟨st, cs, 6, rfl, S3, by omega, fun style H4 _ _ k4 S4 => ?_⟩
  walk_at "rd"
  refine ⟨st, cs, rfl, S4, fun b0 H5 hb0 k5 S5 => ?_⟩
  obtain ⟨b1, b2, b3⟩ := nm_to hb0
  have ea : (⟨#[97]⟩ : Str) = ("a" : Str) := by decide +kernel
  have la : ("a" : Str).length = 1 := by decide +kernel
  have ca : ("a" : Str).cps.toList = [97] := by decide +kernel
  refine r_addS (by rw [la]; omega) ?_
  walk_at "rd"
  have lba : (b0 ++ ("a" : Str)).length = b0.length + 1 := by rw [len_cps (app_cps _ _), List.length_append, cps_len, ca]; rfl
  refine r_slS (by rw [lba]; omega) ?_
  have eb : (cutS (b0 ++ ("a" : Str)) none (some 7)).cps.toList = (b0.cps.toList ++ [97]).take 7 := by
    rw [show (some (7 : Int)) = some ((7 : Nat) : Int) from rfl, cut_to, app_cps, ca]
  have hbn : NmL (cutS (b0 ++ ("a" : Str)) none (some 7)).cps.toList := by
    rw [eb]
    exact (b1.app (by decide +kernel)).take 7 (by omega)
  have hbl : (cutS (b0 ++ ("a" : Str)) none (some 7)).length ≤ 7 := by
    rw [len_cps eb, List.length_take]
    exact Nat.min_le_left _ _
  generalize cutS (b0 ++ ("a" : Str)) none (some 7) = body at hbn hbl
  walk_at "rd"
  refine r_lenS (by omega) ?_
  walk_at "rd"
  refine ⟨st, cs, _, rfl, S5, by omega, fun spot H6 hs0 hs1 k6 S6 => ?_⟩
  have hs2 := hs1 (by omega)
  obtain ⟨sp, rfl⟩ : ∃ k : Nat, spot = (k : Int) := ⟨spot.toNat, by omega⟩
  walk_at "rd"
  refine r_new (by simp) fun pm nm => ?_
  have k36 : Kp [st] H H6 := (((k3.all (S := [st])).trans k4).trans k5).trans k6
  have e6 : H6 p3 = some (.lst ((menu1 ++ menu2).map V.str)) := by
    have np3 : p3 ∉ [st] := by
      have := (S.ne f3).1
      simp only [List.mem_singleton]
      exact fun e => this e.symm
    exact k6.get (k5.get (k4.get e3 np3) np3) np3
  have n3m : p3 ≠ pm := ne_of_none e6 nm
  have Hpm : H pm = none := by
    obtain ⟨_, _, _, _, _, hst, _⟩ := S6.ex
    exact k36.free nm fun b hb _ => by
      have : b = st := by simpa using hb
      rw [this, hst]
      simp
  walk_at "rd"
  refine r_rngE (by omega) (by omega) ?_
  refine for_range (lo := 0) (n := m.toNat) (fun i σ' H' => ∃ (ns : List Str) (v w : Option V), σ' = [some (.ref st), some (.int m), some (.ref p3), some (.int style), some (.str body), some (.int (sp : Int)), some (.ref pm), v, w] ∧ Kp [st] H H' ∧ StoreAt H' st cs ∧
      H' p3 = some (.lst ((menu1 ++ menu2).map V.str)) ∧ H' pm = some (.lst (ns.map V.str)) ∧ ns.length = i ∧ ∀ z ∈ ns, isNm z = true)
    ⟨[], _, _, rfl, k36.trans (Kp.new nm), S6.keep0 (Kp.new nm), by rw [upd_ne n3m]; exact e6, upd_same, rfl, by simp⟩ ?_ ?_
  · rintro i σ' H' hi ⟨ns, v, w', rfl, k7, S7, e7, e8, hl, hn⟩
    walk_at "rd"
    refine ⟨st, cs, rfl, S7, fun z0 H8 hz0 k8 S8 => ?_⟩
    have hpst : pm ∉ [st] := by
      have := (S.ne Hpm).1
      simp only [List.mem_singleton]
      exact fun e => this e.symm
    have hp3st : p3 ∉ [st] := by
      have := (S.ne f3).1
      simp only [List.mem_singleton]
      exact fun e => this e.symm
    walk_at "rd"
    refine r_cut (fun σ' H' => ∃ (z : Str), σ' = [some (.ref st), some (.int m), some (.ref p3), some (.int style), some (.str body), some (.int (sp : Int)), some (.ref pm), some (.int (0 + (i : Int))), some (.str z)] ∧ isNm z = true ∧ Kp [st] H8 H' ∧ StoreAt H' st cs) ?_ ?_
    · obtain ⟨g1, g2, g3⟩ := nm_to hz0
      walk_at "rd"
      refine r_d (fun c1 => ?_) (fun c1 => ?_)
      · walk_at "rd"
        refine r_slS (by omega) ?_
        have ez := cut_to z0 1
        refine ⟨_, rfl, nm_of (by rw [show (some (1 : Int)) = some ((1 : Nat) : Int) from rfl, ez]; exact g1.take 1 (by omega)) (Nat.le_trans (cutS_length _ _ _) g3), .refl, S8⟩
      have one : (some (1 : Int)) = some ((1 : Nat) : Int) := rfl
      -- the part behind the two tests on 1
      have B1 : isNm (cutS z0 none (some 1) ++ body) = true ∧ (cutS z0 none (some 1)).length + body.length ≤ 1000000 := by
        have e1 : (cutS z0 none (some 1)).cps.toList = z0.cps.toList.take 1 := by rw [one, cut_to]
        have l1 : (cutS z0 none (some 1)).length ≤ 1 := by rw [len_cps e1, List.length_take]; exact Nat.min_le_left _ _
        refine ⟨nm_of (by rw [app_cps, e1]; exact (g1.take 1 (by omega)).app hbn.2) ?_, by omega⟩
        rw [len_cps (app_cps _ _), List.length_append, cps_len, cps_len]
        omega
      obtain ⟨ini, cl, ecl⟩ : ∃ ini cl, z0.cps.toList = ini ++ [cl] := by
        have hne : z0.cps.toList ≠ [] := by
          intro h0
          rw [← cps_len, h0] at g2
          simp at g2
        exact ⟨z0.cps.toList.dropLast, z0.cps.toList.getLast hne, (List.dropLast_concat_getLast hne).symm⟩
      have hcl : cl ∈ signs36 := g1.2 cl (by rw [ecl]; simp)
      walk_at "rd"
      refine r_d (fun c2 => ?_) (fun c2 => ?_)
      · walk_at "rd"
        refine r_d (fun c3 => ?_) (fun c3 => ?_)
        · walk_at "rd"
          refine r_slS (by omega) ?_
          walk_at "rd"
          refine r_addS B1.2 ?_
          exact ⟨_, rfl, B1.1, .refl, S8⟩
        · walk_at "rd"
          refine r_d (fun _ => ?_) (fun z => absurd c2 z)
          walk_at "rd"
          refine r_slS (by omega) ?_
          walk_at "rd"
          refine r_ixS (c := cl) (by omega) (by rw [ecl]; exact atI_last _ _) ?_
          have f1 := cut_to body sp
          have f2 := cut_from body sp
          have f3 : ((cutS body none (some (sp : Int))) ++ (⟨#[cl]⟩ : Str)).cps.toList = body.cps.toList.take sp ++ [cl] := by rw [app_cps, f1]
          have f4 : (cutS body none (some (sp : Int))).length ≤ 7 := Nat.le_trans (cutS_length _ _ _) hbl
          have f5 : (cutS body (some (sp : Int)) none).length ≤ 7 := Nat.le_trans (cutS_length _ _ _) hbl
          have f6 : ((cutS body none (some (sp : Int))) ++ (⟨#[cl]⟩ : Str)).length ≤ 8 := by
            rw [len_cps f3, List.length_append, List.length_take, cps_len]
            show min sp _ + 1 ≤ 8
            omega
          refine r_addS (by show _ + 1 ≤ 1000000; omega) ?_
          walk_at "rd"
          refine r_slS (by omega) ?_
          walk_at "rd"
          refine r_addS (by omega) ?_
          refine ⟨_, rfl, nm_of ?_ ?_, .refl, S8⟩
          · rw [app_cps, f3, f2]
            refine ((hbn.take sp (by omega)).app (m := [cl]) fun x hx => ?_).app fun x hx => hbn.2 x (List.mem_of_mem_drop hx)
            have : x = cl := by simpa using hx
            rw [this]; exact hcl
          · rw [len_cps (app_cps _ _), List.length_append, f3, f2, List.length_append, List.length_take, List.length_drop, cps_len]
            show min sp _ + 1 + _ ≤ 8
            omega
      · walk_at "rd"
        refine r_d (fun z => absurd z c2) (fun _ => ?_)
        walk_at "rd"
        refine r_d (fun c3 => ?_) (fun c3 => ?_)
        · walk_at "rd"
          have ct : ("z9q0x1w2" : Str).cps.toList.all (fun x => signs36.contains x) = true := by decide +kernel
          have lt : ("z9q0x1w2" : Str).length = 8 := by decide +kernel
          refine r_addS (by rw [lt]; omega) ?_
          walk_at "rd"
          refine ⟨st, cs, 8, rfl, S8, by omega, fun n H9 hn0 hn1 k9 S9 => ?_⟩
          have hn2 := hn1 (by omega)
          obtain ⟨k, rfl⟩ : ∃ k : Nat, n = (k : Int) := ⟨n.toNat, by omega⟩
          walk_at "rd"
          refine r_slS (by rw [len_cps (app_cps _ _), List.length_append, cps_len, cps_len, lt]; omega) ?_
          have e1 : (1 : Int) + (k : Int) = ((k + 1 : Nat) : Int) := by omega
          rw [e1]
          have e2 := cut_to (body ++ ("z9q0x1w2" : Str)) (k + 1)
          refine ⟨_, rfl, nm_of ?_ ?_, k9, S9⟩
          · rw [e2, app_cps]
            refine (hbn.app fun x hx => ?_).take _ (by omega)
            simpa using List.all_eq_true.mp ct x hx
          · rw [len_cps e2, List.length_take]
            omega
        · walk_at "rd"
          refine r_d (fun c4 => ?_) (fun c4 => ?_)
          · walk_at "rd"
            refine ⟨st, cs, 18, rfl, S8, by omega, fun n H9 hn0 hn1 k9 S9 => ?_⟩
            have hn2 := hn1 (by omega)
            obtain ⟨k, rfl⟩ : ∃ k : Nat, n = (k : Int) := ⟨n.toNat, by omega⟩
            have hml : (menu1 ++ menu2).length = 18 := by decide +kernel
            have hk : k < (menu1 ++ menu2).length := by omega
            refine r_ixL (v := .str (menu1 ++ menu2)[k]) (SqL.of (k9.get (k8.get e7 hp3st) hp3st)) (atI_nat (by rw [List.getElem?_map, List.getElem?_eq_getElem hk]; rfl)) ?_
            exact ⟨_, rfl, menu_ok _ (List.getElem_mem hk), k9, S9⟩
          · walk_at "rd"
            exact ⟨_, rfl, hz0, .refl, S8⟩
    · rintro σ' H' ⟨z, rfl, hz, k9, S9⟩
      walk_at "rd"
      have e8b := k9.get (k8.get e8 hpst) hpst
      refine r_tyL (SqL.of e8b) ?_
      walk_at "rd"
      refine ⟨z, pm, ns, rfl, SqL.of e8b, by omega, hz, fun y H10 hy k10 => ?_⟩
      have e10 := k10.get e8b (by simp)
      walk_at "rd"
      refine r_app e10 (by rw [List.length_map]; omega) ?_
      refine ⟨ns ++ [y], _, _, rfl, (((k7.trans k8).trans k9).trans k10.all).putN Hpm, S.putN Hpm (S9.keep0 k10), ?_, ?_, by simp [hl], fun x hx => ?_⟩
      · rw [upd_ne n3m]
        exact k10.get (k9.get (k8.get e7 hp3st) hp3st) (by simp)
      · rw [upd_same, List.map_append]
        rfl
      · rcases List.mem_append.mp hx with h | h
        · exact hn x h
        · have : x = y := by simpa using h
          rw [this]; exact hy
  · rintro σ' H' ⟨ns, v, w', rfl, k7, S7, e7, e8, hl, hn⟩
    walk_at "rd"
    refine q pm ns _ ?_ (by omega) hn Hpm e8 k7 S7
    intro h0
    rw [h0] at hl
    simp at hl
    omega
end
end Hj
end
section
set_option Elab.async false
set_option linter.all false
set_option maxRecDepth 100000
set_option maxHeartbeats 8000000
local macro_rules | `(tactic| walk_at "rd") => `(tactic| repeat (first
  | with_reducible refine Hj.r_seq ?_
  | with_reducible refine Hj.r_nx ?_
  | with_reducible refine Hj.r_rt ?_
  | with_reducible refine L2.iteT ?_
  | with_reducible refine L2.iteF ?_
  | with_reducible refine Hj.r_set ?_
  | with_reducible refine Hj.r_gname ?_
  | with_reducible refine Hj.r_if ?_
  | with_reducible refine Hj.r_ret ?_
  | ((with_reducible show L2.tVar _ _ _ _); refine ⟨_, rfl, ?_⟩)
  | with_reducible refine Hj.r_c ?_
  | with_reducible refine Hj.r_cons ?_
  | with_reducible refine Hj.r_nil ?_
  | with_reducible refine Hj.r_op ?_
  | with_reducible refine Hj.r_test ?_
  | with_reducible refine Hj.r_B ?_
  | with_reducible refine Hj.r_cb ?_
  | with_reducible refine Hj.r_blV ?_
  | with_reducible refine Hj.r_and ?_
  | with_reducible refine Hj.r_or ?_
  | with_reducible refine Hj.r_not ?_
  | with_reducible refine Hj.r_call ?_
  | with_reducible refine Hj.r_tup ?_
  | with_reducible refine Hj.r_lst ?_
  | with_reducible refine Hj.r_eqS ?_
  | with_reducible refine Hj.r_eqI ?_
  | with_reducible refine Hj.r_neS ?_
  | with_reducible refine Hj.r_neI ?_
  | with_reducible refine Hj.r_isN ?_
  | with_reducible refine Hj.r_I0 ?_
  | with_reducible refine Hj.r_addI ?_
  | with_reducible refine Hj.r_intOf ?_
  | with_reducible refine Hj.r_mx ?_
  | with_reducible refine Hj.r_un ?_
  | with_reducible refine Hj.r_neg ?_
  | with_reducible refine Hj.r_drop ?_
  | with_reducible refine Hj.r_next ?_
  | with_reducible refine Hj.r_retN ?_
  | with_reducible refine Hj.r_sub ?_
  | with_reducible refine Hj.r_asg ?_
  | with_reducible refine Hj.r_bm ?_
  | with_reducible refine Hj.r_bm0 ?_
  | with_reducible refine Hj.r_meth ?_
  | with_reducible refine Hj.r_make ?_
  | with_reducible refine Hj.r_fldE ?_
  | with_reducible refine Hj.r_setF ?_
  | with_reducible refine Hj.r_sl ?_
  | with_reducible refine Hj.r_no ?_
  | with_reducible refine Hj.r_part ?_
  | with_reducible refine Hj.r_partI ?_
  | with_reducible refine Hj.r_m1 ?_
  | with_reducible refine Hj.r_strs ?_
  | with_reducible refine Hj.r_andV ?_
  | with_reducible refine Hj.r_orV ?_
  | with_reducible refine Hj.r_notV ?_
  | with_reducible refine Hj.r_for ?_
  | with_reducible refine Hj.r_rng ?_
  | with_reducible refine Hj.r_itL ?_
  | with_reducible refine Hj.r_itT ?_
  | with_reducible refine Hj.r_itS ?_
  | with_reducible refine Hj.r_itSE ?_))
local macro_rules | `(tactic| walk_at "cl") => `(tactic| ((try dsimp only [L2.cxOf, L2.Cx.nox]); simp only [L2.start, List.map, List.length, List.replicate, List.cons_append, List.nil_append, Nat.reduceAdd, Nat.reduceSub]))
local macro_rules | `(tactic| walk_at "len") => `(tactic| (intro vs H Q E h; first
  | (obtain ⟨_, ee, _⟩ := h; subst ee; rfl) | (obtain ⟨_, _, ee, _⟩ := h; subst ee; rfl) | (obtain ⟨_, _, _, ee, _⟩ := h; subst ee; rfl) | (obtain ⟨_, _, _, _, ee, _⟩ := h; subst ee; rfl) | (obtain ⟨_, _, _, _, _, ee, _⟩ := h; subst ee; rfl) | (obtain ⟨_, _, _, _, _, _, ee, _⟩ := h; subst ee; rfl)
  | (obtain ⟨_, _, _, _, _, _, _, ee, _⟩ := h; subst ee; rfl) | (obtain ⟨_, _, _, _, _, _, _, _, ee, _⟩ := h; subst ee; rfl) | (obtain ⟨_, _, _, _, _, _, _, _, _, ee, _⟩ := h; subst ee; rfl) | (obtain ⟨_, _, _, _, _, _, _, _, _, _, ee, _⟩ := h; subst ee; rfl)))
namespace Hj
open PySem PySem.Spec L2
section
variable {P : Program} {w : World} {K : PySem.W.Frag} {mg : Str → Option Value} {base : Heap}
/-! ### _law_term -/
abbrev psTerm : List Str := ["_law_store_here", "_law_lot_names", "_law_scope"]
/-- the names of the lots at a, the variables at b -/
structure LotsAt (K : PySem.W.Frag) (H : Hp) (st a b : Addr) (ns sc : List Str) : Prop where
  la : SqL K H a (ns.map V.str)
  lb : H b = some (.lst (sc.map V.str))
  sv : ∀ z ∈ sc, isVar z = true
  na : a ≠ st
  nb : b ≠ st
  ne : ns ≠ []
  l9 : ns.length ≤ 9
  s9 : sc.length ≤ 9
  nm : ∀ z ∈ ns, isNm z = true
theorem LotsAt.keep {H H' : Hp} {st a b : Addr} {ns sc : List Str} (L : LotsAt K H st a b ns sc) (k : Kp [st] H H') : LotsAt K H' st a b ns sc :=
  { L with la := k.sqL L.la (by simpa using L.na), lb := k.get L.lb (by simpa using L.nb) }
def spTerm (K : PySem.W.Frag) : Sp := fun vs H Q _ => ∃ (st cs a b : Addr) (ns sc : List Str), vs = [.ref st, .ref a, .ref b] ∧ StoreAt H st cs ∧ LotsAt K H st a b ns sc ∧ ∀ (z : Str) (H' : Hp), isTerm sc z = true → Kp [st] H H' → StoreAt H' st cs → Q (.str z) H'
theorem sc_law_term : FnScope ["_law_store_here", "_law_lot_names", "_law_scope"] ["_law_store_here", "_law_lot_names", "_law_scope"] (defScope s_law_term) := ⟨rfl, rfl, rfl, by decide +kernel, rfl, by decide +kernel, by decide +kernel⟩
theorem ok_law_term {f : Addr} {fd : FuncData} (F : Fun K "_law_term" "_law_term" s_law_term f fd) (T : Txt P K mg) (D_law_take : Dn P w K mg base CX0 4 "_law_take" psTake spTake) (D_law_pick : Dn P w K mg base CX0 4 "_law_pick" ["_law_store_here", "_law_some"] (spPick K))
    (D_law_name : Dn P w K mg base CX0 4 "_law_name" ["_law_store_here"] spName) (D_law_unlike : Dn P w K mg base CX0 4 "_law_unlike" ["_law_word", "_law_taken"] (spUnlike K)) : FnOk P w K mg base CX0 5 f fd psTerm (spTerm K) := by
  refine F.ok sc_law_term ?_ (fun cdv A outer s H vs Q E hr0 h => ?_)
  · walk_at "len"
  obtain ⟨st, cs, a, b, ns, sc, rfl, S, L, q⟩ := h
  refine ⟨_, (pss_cons (ps_if (PW.pt (pw_and (pt_cmpR op_gt (pe_callB call_lenA (by rfl) T.zlen (by decide +kernel) (pa_cons (pv 2) pa_nil)) pe_int (nomark _)) (pw_and1 (pt_cmpR op_eq (pe_d D_law_take hr0 pass0 (pa_cons (pv 0) (pa_cons pe_int pa_nil))) pe_int (nomark _))))) (pss_one (ps_ret (pe_d D_law_pick hr0 pass0 (pa_cons (pv 0) (pa_cons (pv 2) pa_nil))))) pss_nil) (pss_cons (ps_if (pt_cmpR op_eq (pe_d D_law_take hr0 pass0 (pa_cons (pv 0) (pa_cons pe_int pa_nil))) pe_int (nomark _)) (pss_one (ps_ret (pe_d D_law_unlike hr0 pass0 (pa_cons (pe_d D_law_name hr0 pass0 (pa_cons (pv 0) pa_nil)) (pa_cons (pv 1) pa_nil))))) pss_nil) (pss_one (ps_ret (pe_d D_law_pick hr0 pass0 (pa_cons (pv 0) (pa_cons (pv 1) pa_nil))))))), ?_⟩
  walk_at "cl"
  walk_at "rd"
  have hmem : ∀ {ts : List Str} {v : V}, v ∈ ts.map V.str → ∃ z, z ∈ ts ∧ v = .str z := fun h => by
    obtain ⟨z, h1, h2⟩ := List.mem_map.mp h
    exact ⟨z, h1, h2.symm⟩
  have rest : ∀ {H1 : Hp} {D : Ends} {u : TS}, Kp [st] H H1 → StoreAt H1 st cs → D.rt = Q → tSeq (tIfS (tTest (tOp rEq (tCall spTake [] E0 (tCons (tVar 0) (tCons (tC (.int 16)) tNil))) (tC (.int 0)))) (tRet (tCall (spUnlike K) [] E0 (tCons (tCall spName [] E0 (tCons (tVar 0) tNil)) (tCons (tVar 1) tNil)))) tNext)
      (tRet (tCall (spPick K) [] E0 (tCons (tVar 0) (tCons (tVar 1) tNil)))) D [some (.ref st), some (.ref a), some (.ref b)] H1 := fun {H1 D u} k1 S1 eD => by
    walk_at "rd"
    refine ⟨st, cs, 16, rfl, S1, by omega, fun r H2 _ _ k2 S2 => ?_⟩
    walk_at "rd"
    refine r_d (fun c => ?_) (fun c => ?_)
    · walk_at "rd"
      refine ⟨st, cs, rfl, S2, fun z H3 hz k3 S3 => ?_⟩
      walk_at "rd"
      refine ⟨z, a, ns, rfl, ((L.keep ((k1.trans k2).trans k3))).la, by have := L.l9; omega, hz, fun y H4 hy k4 => ?_⟩
      rw [eD]
      exact q y _ (by unfold isTerm; rw [hy]; rfl) (((k1.trans k2).trans k3).trans k4.all) (S3.keep0 k4)
    · walk_at "rd"
      refine ⟨st, cs, a, ns.map V.str, rfl, S2, (L.keep (k1.trans k2)).la, L.na, by simpa using L.ne, by have := L.l9; simp; omega, fun v H3 hv k3 S3 => ?_⟩
      obtain ⟨z, hz, rfl⟩ := hmem hv
      rw [eD]
      exact q z _ (by unfold isTerm; rw [L.nm z hz]; rfl) ((k1.trans k2).trans k3) S3
  refine r_lenL (SqL.of L.lb) ?_
  walk_at "rd"
  refine r_d (fun c1 => ?_) (fun c1 => ?_)
  · walk_at "rd"
    refine ⟨st, cs, 2, rfl, S, by omega, fun r H1 _ _ k1 S1 => ?_⟩
    walk_at "rd"
    refine r_d (fun c2 => ?_) (fun c2 => ?_)
    · walk_at "rd"
      have hs : sc ≠ [] := by
        intro h0
        rw [h0] at c1
        simp at c1
      refine ⟨st, cs, b, sc.map V.str, rfl, S1, SqL.of (L.keep k1).lb, L.nb, by simpa using hs, by have := L.s9; simp; omega, fun v H2 hv k2 S2 => ?_⟩
      obtain ⟨z, hz, rfl⟩ := hmem hv
      exact q z _ (by unfold isTerm; simp [hz]) (k1.trans k2) S2
    · refine r_next ?_
      exact rest (D := ⟨fun _ H' => Q .non H', Q, _, _⟩) (u := tNext) k1 S1 rfl
  · refine L2.iteF (r_next ?_)
    exact rest (D := ⟨fun _ H' => Q .non H', Q, _, _⟩) (u := tNext) .refl S rfl
end
end Hj
end
section
set_option Elab.async false
set_option linter.all false
set_option maxRecDepth 100000
namespace Hj
open PySem
/-! ### more names in reach -/
theorem isTerm_mono {a b : List Str} (h : ∀ z ∈ a, z ∈ b) {z : Str} (t : isTerm a z = true) : isTerm b z = true := by
  unfold isTerm at t ⊢
  rcases Bool.or_eq_true_iff.mp t with t | t
  · rw [t]; rfl
  · rw [List.contains_iff_mem] at t
    have : b.contains z = true := by rw [List.contains_iff_mem]; exact h z t
    rw [this, Bool.or_true]
theorem okTst_mono {a b : List Str} (h : ∀ z ∈ a, z ∈ b) {t : Tst} (o : okTst a t) : okTst b t := ⟨o.1, isTerm_mono h o.2.1, isTerm_mono h o.2.2⟩
mutual
theorem okS_mono : ∀ {a b : List Str} (s : Stm), (∀ z ∈ a, z ∈ b) → okS a s → okS b s
  | _, _, .join x y, h, o => by simp only [okS] at o ⊢; exact ⟨isTerm_mono h o.1, isTerm_mono h o.2⟩
  | _, _, .clear g, h, o => by simp only [okS] at o ⊢; exact isTerm_mono h o
  | _, _, .ite t x y, h, o => by simp only [okS] at o ⊢; exact ⟨okTst_mono h o.1, okO_mono x h o.2.1, okO_mono y h o.2.2⟩
  | _, _, .wh t x, h, o => by simp only [okS] at o ⊢; exact ⟨okTst_mono h o.1, okO_mono x h o.2⟩
  | _, _, .each v x, h, o => by
    simp only [okS] at o ⊢
    refine ⟨o.1, okO_mono x (fun z hz => ?_) o.2⟩
    rcases List.mem_cons.mp hz with e | e
    · rw [e]; exact List.mem_cons_self
    · exact List.mem_cons_of_mem _ (h z e)
theorem okO_mono : ∀ {a b : List Str} (s : List Stm), (∀ z ∈ a, z ∈ b) → okO a s → okO b s
  | _, _, [], h, o => by simp only [okO]
  | _, _, s :: r, h, o => by simp only [okO] at o ⊢; exact ⟨okS_mono s h o.1, okO_mono r h o.2⟩
end
theorem cntO_one (s : Stm) : cntO [s] = cntS s := by simp [cntO]
theorem depO_one (s : Stm) : depO [s] = depS s := by simp [depO]
theorem okO_one {a : List Str} {s : Stm} (h : okS a s) : okO a [s] := by simp only [okO]; exact ⟨h, trivial⟩
/-! ### words that a text may hold -/
def clean (w : Str) : Prop := (1 ≤ w.length ∧ w.length ≤ 8) ∧ ∀ c ∈ w.cps.toList, c ≠ 32 ∧ c < 256
theorem clean_nm {w : Str} (h : isNm w = true) : clean w := by
  unfold isNm at h
  simp only [Bool.and_eq_true, decide_eq_true_eq, List.all_eq_true] at h
  refine ⟨⟨h.1, h.2.1⟩, fun c hc => ?_⟩
  have h3 := h.2.2.2 c hc
  rw [List.contains_iff_mem] at h3
  have h4 : ∀ c ∈ signs36, c ≠ 32 ∧ c < 256 := by decide +kernel
  exact h4 c h3
theorem clean_var {w : Str} (h : isVar w = true) : clean w := by
  unfold isVar at h
  have e : w.cps.toList.length = w.length := by rw [Array.length_toList]; rfl
  split at h
  · next c hc =>
    rw [hc] at e
    simp only [Bool.and_eq_true, decide_eq_true_eq] at h
    have e1 : w.length = 1 := e.symm
    refine ⟨⟨by omega, by omega⟩, fun d hd => ?_⟩
    rw [hc] at hd
    have : d = c := by simpa using hd
    omega
  · cases h
theorem clean_term {sc : List Str} (hs : ∀ z ∈ sc, isVar z = true) {w : Str} (h : isTerm sc w = true) : clean w := by
  unfold isTerm at h
  rcases Bool.or_eq_true_iff.mp h with h | h
  · exact clean_nm h
  · rw [List.contains_iff_mem] at h
    exact clean_var (hs w h)
instance (w : Str) : Decidable (clean w) := by unfold clean; infer_instance
theorem clean_kw : ∀ w ∈ [kJoin, kClear, kIf, kWhile, kUntil, kEach, kEnd, kElse, kDo, kNot, kTog, kOpen], clean w := by decide +kernel
theorem clean_T {sc : List Str} (hs : ∀ z ∈ sc, isVar z = true) {t : Tst} (h : okTst sc t) : ∀ w ∈ wT t, clean w := by
  obtain ⟨h1, h2, h3⟩ := h
  have hw : clean t.w := by
    rcases h1 with e | e <;> rw [e] <;> exact clean_kw _ (by simp)
  have hx := clean_term hs h2
  have hy := clean_term hs h3
  have hn : clean kNot := clean_kw _ (by simp)
  unfold wT
  intro w hm
  split at hm
  · rcases List.mem_cons.mp hm with e | hm
    · rw [e]; exact hn
    rcases List.mem_cons.mp hm with e | hm
    · rw [e]; exact hw
    rcases List.mem_cons.mp hm with e | hm
    · rw [e]; exact hx
    · rw [List.mem_singleton.mp hm]; exact hy
  · rcases List.mem_cons.mp hm with e | hm
    · rw [e]; exact hw
    rcases List.mem_cons.mp hm with e | hm
    · rw [e]; exact hx
    · rw [List.mem_singleton.mp hm]; exact hy
theorem wT_len (t : Tst) : (wT t).length ≤ 4 := by
  unfold wT
  split <;> simp
theorem okTst_opp {sc : List Str} {t : Tst} (h : okTst sc t) : okTst sc (opp t) := h
mutual
theorem wrS_clean {l : Bool} : ∀ {s : Stm} {ws : List Str} {sc : List Str}, WrS l s ws → (∀ z ∈ sc, isVar z = true) → okS sc s → (∀ w ∈ ws, clean w) ∧ ws.length ≤ 9 * cntS s
  | _, _, sc, .join (x := x) (y := y), hs, o => by
    simp only [okS] at o
    refine ⟨fun w hm => ?_, by simp [cntS]⟩
    rcases List.mem_cons.mp hm with e | hm
    · rw [e]; exact clean_kw _ (by simp)
    rcases List.mem_cons.mp hm with e | hm
    · rw [e]; exact clean_term hs o.1
    · rw [List.mem_singleton.mp hm]; exact clean_term hs o.2
  | _, _, sc, .clear, hs, o => by
    simp only [okS] at o
    refine ⟨fun w hm => ?_, by simp [cntS]⟩
    rcases List.mem_cons.mp hm with e | hm
    · rw [e]; exact clean_kw _ (by simp)
    · rw [List.mem_singleton.mp hm]; exact clean_term hs o
  | _, _, sc, .each (v := v) (b := b) (ws := ws) h, hs, o => by
    simp only [okS] at o
    obtain ⟨a1, a2⟩ := wrO_clean h (sc := v :: sc) (fun z hz => by
      rcases List.mem_cons.mp hz with e | e
      · rw [e]; exact o.1
      · exact hs z e) o.2
    refine ⟨fun w hm => ?_, by simp [cntS]; omega⟩
    rcases List.mem_cons.mp hm with e | hm
    · rw [e]; exact clean_kw _ (by simp)
    rcases List.mem_cons.mp hm with e | hm
    · rw [e]; exact clean_var o.1
    rcases List.mem_cons.mp hm with e | hm
    · rw [e]; exact clean_kw _ (by simp)
    rcases List.mem_append.mp hm with hm | hm
    · exact a1 w hm
    · rw [List.mem_singleton.mp hm]; exact clean_kw _ (by simp)
  | _, _, sc, .ite (t := t) (b := b) (o := u) (ws := ws) (us := us) h1 h2, hs, o => by
    simp only [okS] at o
    obtain ⟨a1, a2⟩ := wrO_clean h1 hs o.2.1
    obtain ⟨a3, a4⟩ := wrE_clean h2 hs o.2.2
    have a5 := wT_len t
    refine ⟨fun w hm => ?_, by simp [cntS]; omega⟩
    rcases List.mem_cons.mp hm with e | hm
    · rw [e]; exact clean_kw _ (by simp)
    rcases List.mem_append.mp hm with hm | hm
    · exact clean_T hs o.1 w hm
    rcases List.mem_cons.mp hm with e | hm
    · rw [e]; exact clean_kw _ (by simp)
    rcases List.mem_append.mp hm with hm | hm
    · exact a1 w hm
    rcases List.mem_append.mp hm with hm | hm
    · exact a3 w hm
    · rw [List.mem_singleton.mp hm]; exact clean_kw _ (by simp)
  | _, _, sc, .wh (t := t) (b := b) (ws := ws) hn h, hs, o => by
    simp only [okS] at o
    exact wrW_clean h hs o.2 o.1 (clean_kw _ (by simp))
  | _, _, sc, .un (t := t) (b := b) (ws := ws) hn h, hs, o => by
    simp only [okS] at o
    exact wrW_clean h hs o.2 (okTst_opp o.1) (clean_kw _ (by simp))
  | _, _, sc, .whN (t := t) (b := b) (ws := ws) hn h, hs, o => by
    simp only [okS] at o
    exact wrW_clean h hs o.2 o.1 (clean_kw _ (by simp))
  | _, _, sc, .unN (t := t) (b := b) (ws := ws) hn h, hs, o => by
    simp only [okS] at o
    exact wrW_clean h hs o.2 (okTst_opp o.1) (clean_kw _ (by simp))
theorem wrW_clean {l : Bool} {b : List Stm} {ws : List Str} {sc : List Str} (h : WrO l b ws) (hs : ∀ z ∈ sc, isVar z = true) (o : okO sc b) {t u : Tst} (ht : okTst sc u) {k : Str} (hk : clean k) :
    (∀ w ∈ k :: (wT u ++ (kDo :: (ws ++ [kEnd]))), clean w) ∧ (k :: (wT u ++ (kDo :: (ws ++ [kEnd])))).length ≤ 9 * cntS (.wh t b) := by
  obtain ⟨a1, a2⟩ := wrO_clean h hs o
  have a5 := wT_len u
  refine ⟨fun w hm => ?_, by simp [cntS]; omega⟩
  rcases List.mem_cons.mp hm with e | hm
  · rw [e]; exact hk
  rcases List.mem_append.mp hm with hm | hm
  · exact clean_T hs ht w hm
  rcases List.mem_cons.mp hm with e | hm
  · rw [e]; exact clean_kw _ (by simp)
  rcases List.mem_append.mp hm with hm | hm
  · exact a1 w hm
  · rw [List.mem_singleton.mp hm]; exact clean_kw _ (by simp)
theorem wrE_clean {l : Bool} : ∀ {o : List Stm} {ws : List Str} {sc : List Str}, WrE l o ws → (∀ z ∈ sc, isVar z = true) → okO sc o → (∀ w ∈ ws, clean w) ∧ ws.length ≤ 9 * cntO o + 1
  | _, _, _, .none, hs, o => ⟨fun w hm => absurd hm (by simp), by simp⟩
  | _, _, _, .some _ h, hs, o => by
    obtain ⟨a1, a2⟩ := wrO_clean h hs o
    refine ⟨fun w hm => ?_, by simp; omega⟩
    rcases List.mem_cons.mp hm with e | hm
    · rw [e]; exact clean_kw _ (by simp)
    · exact a1 w hm
  | _, _, _, .odd, hs, o => ⟨fun w hm => by rw [List.mem_singleton.mp hm]; exact clean_kw _ (by simp), by simp⟩
theorem wrO_clean {l : Bool} : ∀ {o : List Stm} {ws : List Str} {sc : List Str}, WrO l o ws → (∀ z ∈ sc, isVar z = true) → okO sc o → (∀ w ∈ ws, clean w) ∧ ws.length ≤ 9 * cntO o
  | _, _, _, .nil, hs, o => ⟨fun w hm => absurd hm (by simp), by simp⟩
  | _, _, _, .cons h1 h2, hs, o => by
    simp only [okO] at o
    obtain ⟨a1, a2⟩ := wrS_clean h1 hs o.1
    obtain ⟨a3, a4⟩ := wrO_clean h2 hs o.2
    refine ⟨fun w hm => ?_, by simp [cntO]; omega⟩
    rcases List.mem_append.mp hm with hm | hm
    · exact a1 w hm
    · exact a3 w hm
end
end Hj
end
section
set_option Elab.async false
set_option linter.all false
set_option maxRecDepth 100000
set_option maxHeartbeats 8000000
local macro_rules | `(tactic| walk_at "rd") => `(tactic| repeat (first
  | with_reducible refine Hj.r_seq ?_
  | with_reducible refine Hj.r_nx ?_
  | with_reducible refine Hj.r_rt ?_
  | with_reducible refine L2.iteT ?_
  | with_reducible refine L2.iteF ?_
  | with_reducible refine Hj.r_set ?_
  | with_reducible refine Hj.r_gname ?_
  | with_reducible refine Hj.r_if ?_
  | with_reducible refine Hj.r_ret ?_
  | ((with_reducible show L2.tVar _ _ _ _); refine ⟨_, rfl, ?_⟩)
  | with_reducible refine Hj.r_c ?_
  | with_reducible refine Hj.r_cons ?_
  | with_reducible refine Hj.r_nil ?_
  | with_reducible refine Hj.r_op ?_
  | with_reducible refine Hj.r_test ?_
  | with_reducible refine Hj.r_B ?_
  | with_reducible refine Hj.r_cb ?_
  | with_reducible refine Hj.r_blV ?_
  | with_reducible refine Hj.r_and ?_
  | with_reducible refine Hj.r_or ?_
  | with_reducible refine Hj.r_not ?_
  | with_reducible refine Hj.r_call ?_
  | with_reducible refine Hj.r_tup ?_
  | with_reducible refine Hj.r_lst ?_
  | with_reducible refine Hj.r_eqS ?_
  | with_reducible refine Hj.r_eqI ?_
  | with_reducible refine Hj.r_neS ?_
  | with_reducible refine Hj.r_neI ?_
  | with_reducible refine Hj.r_isN ?_
  | with_reducible refine Hj.r_I0 ?_
  | with_reducible refine Hj.r_addI ?_
  | with_reducible refine Hj.r_intOf ?_
  | with_reducible refine Hj.r_mx ?_
  | with_reducible refine Hj.r_un ?_
  | with_reducible refine Hj.r_neg ?_
  | with_reducible refine Hj.r_drop ?_
  | with_reducible refine Hj.r_next ?_
  | with_reducible refine Hj.r_retN ?_
  | with_reducible refine Hj.r_sub ?_
  | with_reducible refine Hj.r_asg ?_
  | with_reducible refine Hj.r_bm ?_
  | with_reducible refine Hj.r_bm0 ?_
  | with_reducible refine Hj.r_meth ?_
  | with_reducible refine Hj.r_make ?_
  | with_reducible refine Hj.r_fldE ?_
  | with_reducible refine Hj.r_setF ?_
  | with_reducible refine Hj.r_sl ?_
  | with_reducible refine Hj.r_no ?_
  | with_reducible refine Hj.r_part ?_
  | with_reducible refine Hj.r_partI ?_
  | with_reducible refine Hj.r_m1 ?_
  | with_reducible refine Hj.r_strs ?_
  | with_reducible refine Hj.r_andV ?_
  | with_reducible refine Hj.r_orV ?_
  | with_reducible refine Hj.r_notV ?_
  | with_reducible refine Hj.r_for ?_
  | with_reducible refine Hj.r_rng ?_
  | with_reducible refine Hj.r_itL ?_
  | with_reducible refine Hj.r_itT ?_
  | with_reducible refine Hj.r_itS ?_
  | with_reducible refine Hj.r_itSE ?_))
local macro_rules | `(tactic| walk_at "cl") => `(tactic| ((try dsimp only [L2.cxOf, L2.Cx.nox]); simp only [L2.start, List.map, List.length, List.replicate, List.cons_append, List.nil_append, Nat.reduceAdd, Nat.reduceSub]))
local macro_rules | `(tactic| walk_at "len") => `(tactic| (intro vs H Q E h; first
  | (obtain ⟨_, ee, _⟩ := h; subst ee; rfl) | (obtain ⟨_, _, ee, _⟩ := h; subst ee; rfl) | (obtain ⟨_, _, _, ee, _⟩ := h; subst ee; rfl) | (obtain ⟨_, _, _, _, ee, _⟩ := h; subst ee; rfl) | (obtain ⟨_, _, _, _, _, ee, _⟩ := h; subst ee; rfl) | (obtain ⟨_, _, _, _, _, _, ee, _⟩ := h; subst ee; rfl)
  | (obtain ⟨_, _, _, _, _, _, _, ee, _⟩ := h; subst ee; rfl) | (obtain ⟨_, _, _, _, _, _, _, _, ee, _⟩ := h; subst ee; rfl) | (obtain ⟨_, _, _, _, _, _, _, _, _, ee, _⟩ := h; subst ee; rfl) | (obtain ⟨_, _, _, _, _, _, _, _, _, _, ee, _⟩ := h; subst ee; rfl)))
namespace Hj
open PySem PySem.Spec L2
section
variable {P : Program} {w : World} {K : PySem.W.Frag} {mg : Str → Option Value} {base : Heap}
theorem dp_tup {H : Hp} {p : Addr} {xs : List V} {ds : List PyData} (h : H p = some (.tup xs)) (ha : DpAll K H xs ds) : Dp K H (.ref p) (.tuple ds) := .tup (SqT.of h) ha
theorem dps3 {H : Hp} (a b c : Str) : DpAll K H [.str a, .str b, .str c] [.str a, .str b, .str c] := DpAll.strs [a, b, c]
/-! ### _law_test -/
def spTest (K : PySem.W.Frag) : Sp := fun vs H Q _ => ∃ (st cs a b : Addr) (ns sc : List Str), vs = [.ref st, .ref a, .ref b] ∧ StoreAt H st cs ∧ LotsAt K H st a b ns sc ∧ ∀ (v : V) (t : Tst) (H' : Hp), okTst sc t → Dp K H' v (dT t) → Kp [st] H H' → StoreAt H' st cs → Q v H'
theorem sc_law_test : FnScope ["_law_store_here", "_law_lot_names", "_law_scope", "_law_word", "_law_made"] ["_law_store_here", "_law_lot_names", "_law_scope"] (defScope s_law_test) := ⟨rfl, rfl, rfl, by decide +kernel, rfl, by decide +kernel, by decide +kernel⟩
theorem ok_law_test {f : Addr} {fd : FuncData} (F : Fun K "_law_test" "_law_test" s_law_test f fd) (T : Txt P K mg) (D_law_take : Dn P w K mg base CX0 5 "_law_take" psTake spTake) (D_law_pick : Dn P w K mg base CX0 5 "_law_pick" ["_law_store_here", "_law_some"] (spPick K))
    (D_law_term : Dn P w K mg base CX0 5 "_law_term" psTerm (spTerm K)) : FnOk P w K mg base CX0 6 f fd psTerm (spTest K) := by
  refine F.ok sc_law_test ?_ (fun cdv A outer s H vs Q E hr0 h => ?_)
  · walk_at "len"
  obtain ⟨st, cs, a, b, ns, sc, rfl, S, L, q⟩ := h
  refine ⟨_, (pss_cons (ps_set (i := 3) sc_law_test.nd rfl (Or.inl rfl) (pe_d D_law_pick hr0 pass0 (pa_cons (pv 0) (pa_cons (pe_lst (pa_cons pe_str (pa_cons pe_str pa_nil))) pa_nil)))) (pss_cons (ps_set (i := 4) sc_law_test.nd rfl (Or.inl rfl) (pe_tup (pa_cons (pv 3) (pa_cons (pe_d D_law_term hr0 pass0 (pa_cons (pv 0) (pa_cons (pv 1) (pa_cons (pv 2) pa_nil)))) (pa_cons (pe_d D_law_term hr0 pass0 (pa_cons (pv 0) (pa_cons (pv 1) (pa_cons (pv 2) pa_nil)))) pa_nil))))) (pss_cons (ps_if (pt_cmpR op_eq (pe_d D_law_take hr0 pass0 (pa_cons (pv 0) (pa_cons pe_int pa_nil))) pe_int (nomark _)) (pss_one (ps_ret (pe_tup (pa_cons pe_str (pa_cons (pv 4) pa_nil))))) pss_nil) (pss_one (ps_ret (pv 4)))))), ?_⟩
  walk_at "cl"
  walk_at "rd"
  refine r_new (by simp) fun p1 n1 => ?_
  walk_at "rd"
  have S1 := S.keep0 (Kp.new (o := .lst [.str "together", .str "open"]) n1)
  refine ⟨st, cs, p1, [.str "together", .str "open"], rfl, S1, SqL.of upd_same, (S.ne n1).1.symm, by simp, by simp, fun v H2 hv k2 S2 => ?_⟩
  obtain ⟨z, hz, rfl⟩ : ∃ z, (z = kTog ∨ z = kOpen) ∧ v = .str z := by
    rcases List.mem_cons.mp hv with e | e
    · exact ⟨_, .inl rfl, e⟩
    · exact ⟨_, .inr rfl, List.mem_singleton.mp e⟩
  have K2 : Kp [st] H H2 := ((Kp.new n1).trans k2)
  walk_at "rd"
  refine ⟨st, cs, a, b, ns, sc, rfl, S2, L.keep K2, fun x H3 hx k3 S3 => ?_⟩
  walk_at "rd"
  refine ⟨st, cs, a, b, ns, sc, rfl, S3, L.keep (K2.trans k3), fun y H4 hy k4 S4 => ?_⟩
  walk_at "rd"
  refine r_new (by simp) fun p5 n5 => ?_
  walk_at "rd"
  have S5 := S4.keep0 (Kp.new (o := .tup [.str z, .str x, .str y]) n5)
  refine ⟨st, cs, 3, rfl, S5, by omega, fun r H6 _ _ k6 S6 => ?_⟩
  have e6 := k6.tup (a := p5) upd_same
  have K6 := ((K2.trans k3).trans k4).trans ((Kp.new n5).trans k6)
  walk_at "rd"
  refine r_d (fun c => ?_) (fun c => ?_)
  · walk_at "rd"
    refine r_new (by simp) fun p7 n7 => ?_
    refine q _ ⟨true, z, x, y⟩ _ ⟨hz, hx, hy⟩ ?_ (K6.trans (Kp.new n7)) (S6.keep0 (Kp.new n7))
    exact dp_tup upd_same (.cons (.str _) (.cons (dp_tup ((Kp.new (S := []) n7).tup e6) (dps3 z x y)) .nil))
  · walk_at "rd"
    exact q _ ⟨false, z, x, y⟩ _ ⟨hz, hx, hy⟩ (dp_tup e6 (dps3 z x y)) K6 S6
end
end Hj
end
section
set_option Elab.async false
set_option linter.all false
set_option maxRecDepth 100000
set_option maxHeartbeats 8000000
local macro_rules | `(tactic| walk_at "rd") => `(tactic| repeat (first
  | with_reducible refine Hj.r_seq ?_
  | with_reducible refine Hj.r_nx ?_
  | with_reducible refine Hj.r_rt ?_
  | with_reducible refine L2.iteT ?_
  | with_reducible refine L2.iteF ?_
  | with_reducible refine Hj.r_set ?_
  | with_reducible refine Hj.r_gname ?_
  | with_reducible refine Hj.r_if ?_
  | with_reducible refine Hj.r_ret ?_
  | ((with_reducible show L2.tVar _ _ _ _); refine ⟨_, rfl, ?_⟩)
  | with_reducible refine Hj.r_c ?_
  | with_reducible refine Hj.r_cons ?_
  | with_reducible refine Hj.r_nil ?_
  | with_reducible refine Hj.r_op ?_
  | with_reducible refine Hj.r_test ?_
  | with_reducible refine Hj.r_B ?_
  | with_reducible refine Hj.r_cb ?_
  | with_reducible refine Hj.r_blV ?_
  | with_reducible refine Hj.r_and ?_
  | with_reducible refine Hj.r_or ?_
  | with_reducible refine Hj.r_not ?_
  | with_reducible refine Hj.r_call ?_
  | with_reducible refine Hj.r_tup ?_
  | with_reducible refine Hj.r_lst ?_
  | with_reducible refine Hj.r_eqS ?_
  | with_reducible refine Hj.r_eqI ?_
  | with_reducible refine Hj.r_neS ?_
  | with_reducible refine Hj.r_neI ?_
  | with_reducible refine Hj.r_isN ?_
  | with_reducible refine Hj.r_I0 ?_
  | with_reducible refine Hj.r_addI ?_
  | with_reducible refine Hj.r_intOf ?_
  | with_reducible refine Hj.r_mx ?_
  | with_reducible refine Hj.r_un ?_
  | with_reducible refine Hj.r_neg ?_
  | with_reducible refine Hj.r_drop ?_
  | with_reducible refine Hj.r_next ?_
  | with_reducible refine Hj.r_retN ?_
  | with_reducible refine Hj.r_sub ?_
  | with_reducible refine Hj.r_asg ?_
  | with_reducible refine Hj.r_bm ?_
  | with_reducible refine Hj.r_bm0 ?_
  | with_reducible refine Hj.r_meth ?_
  | with_reducible refine Hj.r_make ?_
  | with_reducible refine Hj.r_fldE ?_
  | with_reducible refine Hj.r_setF ?_
  | with_reducible refine Hj.r_sl ?_
  | with_reducible refine Hj.r_no ?_
  | with_reducible refine Hj.r_part ?_
  | with_reducible refine Hj.r_partI ?_
  | with_reducible refine Hj.r_m1 ?_
  | with_reducible refine Hj.r_strs ?_
  | with_reducible refine Hj.r_andV ?_
  | with_reducible refine Hj.r_orV ?_
  | with_reducible refine Hj.r_notV ?_
  | with_reducible refine Hj.r_for ?_
  | with_reducible refine Hj.r_rng ?_
  | with_reducible refine Hj.r_itL ?_
  | with_reducible refine Hj.r_itT ?_
  | with_reducible refine Hj.r_itS ?_
  | with_reducible refine Hj.r_itSE ?_))
local macro_rules | `(tactic| walk_at "cl") => `(tactic| ((try dsimp only [L2.cxOf, L2.Cx.nox]); simp only [L2.start, List.map, List.length, List.replicate, List.cons_append, List.nil_append, Nat.reduceAdd, Nat.reduceSub]))
local macro_rules | `(tactic| walk_at "len") => `(tactic| (intro vs H Q E h; first
  | (obtain ⟨_, ee, _⟩ := h; subst ee; rfl) | (obtain ⟨_, _, ee, _⟩ := h; subst ee; rfl) | (obtain ⟨_, _, _, ee, _⟩ := h; subst ee; rfl) | (obtain ⟨_, _, _, _, ee, _⟩ := h; subst ee; rfl) | (obtain ⟨_, _, _, _, _, ee, _⟩ := h; subst ee; rfl) | (obtain ⟨_, _, _, _, _, _, ee, _⟩ := h; subst ee; rfl)
  | (obtain ⟨_, _, _, _, _, _, _, ee, _⟩ := h; subst ee; rfl) | (obtain ⟨_, _, _, _, _, _, _, _, ee, _⟩ := h; subst ee; rfl) | (obtain ⟨_, _, _, _, _, _, _, _, _, ee, _⟩ := h; subst ee; rfl) | (obtain ⟨_, _, _, _, _, _, _, _, _, _, ee, _⟩ := h; subst ee; rfl)))
namespace Hj
open PySem PySem.Spec L2
section
variable {P : Program} {w : World} {K : PySem.W.Frag} {mg : Str → Option Value} {base : Heap}
theorem Df.dn {CX : CXT} {x qual : Str} {st : Stmt} {ps : List Str} {k : Nat} {sp : Sp} (D : Df K mg x qual st ps) (h : ∀ {f fd}, Fun K x qual st f fd → FnOk P w K mg base CX k f fd ps sp) : Dn P w K mg base CX k x ps sp := by
  obtain ⟨f, fd, F, r⟩ := D.ex
  exact ⟨⟨f, fd, h F, r⟩⟩
theorem StoreAt.fr {H H' : Hp} {st cs a : Addr} (s : StoreAt H' st cs) (k : Kp [st] H H') (h : H' a = none) : H a = none := by
  obtain ⟨_, _, _, _, _, hst, _⟩ := s.ex
  exact k.free h fun b hb _ => by
    have : b = st := by simpa using hb
    rw [this, hst]
    simp
/-- a promise about nothing -/
abbrev spNo : Sp := fun _ _ _ _ => False
theorem LotsAt.neK {H : Hp} {st a b p : Addr} {ns sc : List Str} {o : HO} (L : LotsAt K H st a b ns sc) (h : H p = none) : b ≠ p := ne_of_none L.lb h
/-! ### _law_statement, _law_order -/
abbrev psOrd : List Str := ["_law_store_here", "_law_lot_names", "_law_room", "_law_deep", "_law_scope"]
def spStmt (K : PySem.W.Frag) (n : Nat) : Sp := fun vs H Q _ => ∃ (st cs a b : Addr) (ns sc : List Str) (room deep : Int), vs = [.ref st, .ref a, .int room, .int deep, .ref b] ∧ StoreAt H st cs ∧ LotsAt K H st a b ns sc ∧ 1 ≤ room ∧ 0 ≤ deep ∧ deep ≤ n ∧ sc.length + deep.toNat ≤ 9 ∧
  ∀ (p : Addr) (v : V) (t : Stm) (H' : Hp), H p = none → H' p = some (.lst [v, .int (cntS t : Nat)]) → Dp K H' v (dS t) → okS sc t → (cntS t : Int) ≤ room → (depS t : Int) ≤ deep → Kp [st] H H' → StoreAt H' st cs → Q (.ref p) H'
def spOrd (K : PySem.W.Frag) (n : Nat) : Sp := fun vs H Q _ => ∃ (st cs a b : Addr) (ns sc : List Str) (room deep : Int), vs = [.ref st, .ref a, .int room, .int deep, .ref b] ∧ StoreAt H st cs ∧ LotsAt K H st a b ns sc ∧ 0 ≤ room ∧ 0 ≤ deep ∧ deep ≤ n ∧ sc.length + deep.toNat ≤ 9 ∧
  ∀ (p : Addr) (v : V) (o : List Stm) (H' : Hp), H p = none → H' p = some (.lst [v, .int (cntO o : Nat)]) → Dp K H' v (dO o) → okO sc o → (cntO o : Int) ≤ room → (depO o : Int) ≤ deep → Kp [st] H H' → StoreAt H' st cs → Q (.ref p) H'
theorem sc_law_statement : FnScope ["_law_store_here", "_law_lot_names", "_law_room", "_law_deep", "_law_scope", "_law_kind", "_law_test_made", "_law_body", "_law_other_body", "_law_letter"] ["_law_store_here", "_law_lot_names", "_law_room", "_law_deep", "_law_scope"] (defScope s_law_statement) := ⟨rfl, rfl, rfl, by decide +kernel, rfl, by decide +kernel, by decide +kernel⟩
theorem ok_law_statement {k n : Nat} (hk : 6 ≤ k) {spO : Sp} {f : Addr} {fd : FuncData} (F : Fun K "_law_statement" "_law_statement" s_law_statement f fd) (T : Txt P K mg) (D_law_take : Dn P w K mg base CX0 k "_law_take" psTake spTake)
    (D_law_term : Dn P w K mg base CX0 k "_law_term" psTerm (spTerm K)) (D_law_test : Dn P w K mg base CX0 k "_law_test" psTerm (spTest K)) (D_law_order : Dn P w K mg base CX0 k "_law_order" psOrd spO)
    (hO : ∀ m, n = m + 1 → ∀ vs H Q E, spOrd K m vs H Q E → spO vs H Q E) : FnOk P w K mg base CX0 (k + 1) f fd psOrd (spStmt K n) := by
  refine F.ok sc_law_statement ?_ (fun cdv A outer s H vs Q E hr0 h => ?_)
  · walk_at "len"
  obtain ⟨st, cs, a, b, ns, sc, room, deep, rfl, S, L, hr1, hd0, hdn, hsd, q⟩ := h
  refine ⟨_, (pss_cons (ps_set (i := 5) sc_law_statement.nd rfl (Or.inl rfl) (pe_d D_law_take hr0 pass0 (pa_cons (pv 0) (pa_cons pe_int pa_nil)))) (pss_cons (ps_if (pt_cmpR op_eq (pv 5) pe_int (nomark _)) (pss_one (ps_ret (pe_lst (pa_cons (pe_tup (pa_cons pe_str (pa_cons (pe_d D_law_term hr0 pass0 (pa_cons (pv 0) (pa_cons (pv 1) (pa_cons (pv 4) pa_nil)))) pa_nil))) (pa_cons pe_int pa_nil))))) pss_nil) (pss_cons (ps_if (PW.pt (pw_or (pt_cmpR op_lt (pv 3) pe_int (nomark _)) (pw_or1 (pt_cmpR op_lt (pv 5) pe_int (nomark _))))) (pss_one (ps_ret (pe_lst (pa_cons (pe_tup (pa_cons pe_str (pa_cons (pe_d D_law_term hr0 pass0 (pa_cons (pv 0) (pa_cons (pv 1) (pa_cons (pv 4) pa_nil)))) (pa_cons (pe_d D_law_term hr0 pass0 (pa_cons (pv 0) (pa_cons (pv 1) (pa_cons (pv 4) pa_nil)))) pa_nil)))) (pa_cons pe_int pa_nil))))) pss_nil) (pss_cons (ps_if (pt_cmpR op_lt (pv 5) pe_int (nomark _)) (pss_cons (ps_set (i := 6) sc_law_statement.nd rfl (Or.inl rfl) (pe_d D_law_test hr0 pass0 (pa_cons (pv 0) (pa_cons (pv 1) (pa_cons (pv 4) pa_nil))))) (pss_cons (ps_set (i := 7) sc_law_statement.nd rfl (Or.inl rfl) (pe_d D_law_order hr0 pass0 (pa_cons (pv 0) (pa_cons (pv 1) (pa_cons (pe_op op_sub (pv 2) pe_int) (pa_cons (pe_op op_sub (pv 3) pe_int) (pa_cons (pv 4) pa_nil))))))) (pss_cons (ps_set (i := 8) sc_law_statement.nd rfl (Or.inl rfl) (pe_lst (pa_cons (pe_tup pa_nil) (pa_cons pe_int pa_nil)))) (Evl.pss_cut (ps_if (pt_cmpR op_eq (pe_d D_law_take hr0 pass0 (pa_cons (pv 0) (pa_cons pe_int pa_nil))) pe_int (nomark _)) (pss_one (ps_set (i := 8) sc_law_statement.nd rfl (Or.inl rfl) (pe_d D_law_order hr0 pass0 (pa_cons (pv 0) (pa_cons (pv 1) (pa_cons (pe_op op_sub (pe_op op_sub (pv 2) pe_int) (pe_ix ix_seq (pv 7) pe_int (fun _ _ => rfl))) (pa_cons (pe_op op_sub (pv 3) pe_int) (pa_cons (pv 4) pa_nil)))))))) pss_nil) (pss_one (ps_ret (pe_lst (pa_cons (pe_tup (pa_cons pe_str (pa_cons (pv 6) (pa_cons (pe_ix ix_seq (pv 7) pe_int (fun _ _ => rfl)) (pa_cons (pe_ix ix_seq (pv 8) pe_int (fun _ _ => rfl)) pa_nil))))) (pa_cons (pe_op opAdd (pe_op opAdd pe_int (pe_ix ix_seq (pv 7) pe_int (fun _ _ => rfl))) (pe_ix ix_seq (pv 8) pe_int (fun _ _ => rfl))) pa_nil))))))))) pss_nil) (pss_cons (ps_if (pt_cmpR op_eq (pv 5) pe_int (nomark _)) (pss_cons (ps_set (i := 6) sc_law_statement.nd rfl (Or.inl rfl) (pe_d D_law_test hr0 pass0 (pa_cons (pv 0) (pa_cons (pv 1) (pa_cons (pv 4) pa_nil))))) (pss_cons (ps_set (i := 7) sc_law_statement.nd rfl (Or.inl rfl) (pe_d D_law_order hr0 pass0 (pa_cons (pv 0) (pa_cons (pv 1) (pa_cons (pe_op op_sub (pv 2) pe_int) (pa_cons (pe_op op_sub (pv 3) pe_int) (pa_cons (pv 4) pa_nil))))))) (pss_one (ps_ret (pe_lst (pa_cons (pe_tup (pa_cons pe_str (pa_cons (pv 6) (pa_cons (pe_ix ix_seq (pv 7) pe_int (fun _ _ => rfl)) pa_nil)))) (pa_cons (pe_op opAdd pe_int (pe_ix ix_seq (pv 7) pe_int (fun _ _ => rfl))) pa_nil))))))) pss_nil) (pss_cons (ps_set (i := 9) sc_law_statement.nd rfl (Or.inl rfl) (pe_ix ix_seq pe_str (pe_d D_law_take hr0 pass0 (pa_cons (pv 0) (pa_cons pe_int pa_nil))) (fun _ _ => rfl))) (Evl.pss_cut (ps_if (PW.pt (pw_and (pt_cmpR op_gt (pe_callB call_lenA (by rfl) T.zlen (by decide +kernel) (pa_cons (pv 4) pa_nil)) pe_int (nomark _)) (pw_and1 (pt_cmpR op_eq (pe_d D_law_take hr0 pass0 (pa_cons (pv 0) (pa_cons pe_int pa_nil))) pe_int (nomark _))))) (pss_one (ps_set (i := 9) sc_law_statement.nd rfl (Or.inl rfl) (pe_ix ix_seq (pv 4) (pe_un un_neg pe_int) (fun _ _ => rfl)))) pss_nil) (pss_cons (ps_set (i := 7) sc_law_statement.nd rfl (Or.inl rfl) (pe_d D_law_order hr0 pass0 (pa_cons (pv 0) (pa_cons (pv 1) (pa_cons (pe_op op_sub (pv 2) pe_int) (pa_cons (pe_op op_sub (pv 3) pe_int) (pa_cons (pe_op opAdd (pv 4) (pe_lst (pa_cons (pv 9) pa_nil))) pa_nil))))))) (pss_one (ps_ret (pe_lst (pa_cons (pe_tup (pa_cons pe_str (pa_cons (pv 9) (pa_cons (pe_ix ix_seq (pv 7) pe_int (fun _ _ => rfl)) pa_nil)))) (pa_cons (pe_op opAdd pe_int (pe_ix ix_seq (pv 7) pe_int (fun _ _ => rfl))) pa_nil))))))))))))), ?_⟩
  walk_at "cl"
  walk_at "rd"
  refine ⟨st, cs, 9, rfl, S, by omega, fun kd H1 kd0 _ k1 S1 => ?_⟩
  walk_at "rd"
  refine r_d (fun c1 => ?_) (fun c1 => ?_)
  · walk_at "rd"
    refine ⟨st, cs, a, b, ns, sc, rfl, S1, L.keep k1, fun x H2 hx k2 S2 => ?_⟩
    walk_at "rd"
    refine r_new (by simp) fun p3 n3 => ?_
    walk_at "rd"
    refine r_new (by simp) fun p4 n4 => ?_
    refine q p4 _ (.clear x) _ ((S2.keep0 (Kp.new n3)).fr ((k1.trans k2).trans (Kp.new n3)) n4) upd_same ?_ hx (by simpa [cntS] using hr1) (by simpa [depS] using hd0) ((k1.trans k2).trans ((Kp.new n3).trans (Kp.new n4))) ((S2.keep0 (Kp.new n3)).keep0 (Kp.new n4))
    exact dp_tup ((Kp.new (S := []) n4).tup upd_same) (.cons (.str _) (.cons (.str _) .nil))
  walk_at "rd"
  refine r_d (fun c2 => ?_) (fun c2 => ?_)
  · walk_at "rd"
    refine ⟨st, cs, a, b, ns, sc, rfl, S1, L.keep k1, fun x H2 hx k2 S2 => ?_⟩
    walk_at "rd"
    refine ⟨st, cs, a, b, ns, sc, rfl, S2, L.keep (k1.trans k2), fun y H3 hy k3 S3 => ?_⟩
    walk_at "rd"
    refine r_new (by simp) fun p4 n4 => ?_
    walk_at "rd"
    refine r_new (by simp) fun p5 n5 => ?_
    refine q p5 _ (.join x y) _ ((S3.keep0 (Kp.new n4)).fr (((k1.trans k2).trans k3).trans (Kp.new n4)) n5) upd_same ?_ ⟨hx, hy⟩ (by simpa [cntS] using hr1) (by simpa [depS] using hd0) (((k1.trans k2).trans k3).trans ((Kp.new n4).trans (Kp.new n5))) ((S3.keep0 (Kp.new n4)).keep0 (Kp.new n5))
    exact dp_tup ((Kp.new (S := []) n5).tup upd_same) (.cons (.str _) (.cons (.str _) (.cons (.str _) .nil)))
  walk_at "rd"
  refine r_d (fun c3 => ?_) (fun c3 => ?_)
  · walk_at "rd"
    refine ⟨st, cs, a, b, ns, sc, rfl, S1, L.keep k1, fun x H2 hx k2 S2 => ?_⟩
    walk_at "rd"
    refine ⟨st, cs, a, b, ns, sc, rfl, S2, L.keep (k1.trans k2), fun y H3 hy k3 S3 => ?_⟩
    walk_at "rd"
    refine r_new (by simp) fun p4 n4 => ?_
    walk_at "rd"
    refine r_new (by simp) fun p5 n5 => ?_
    refine q p5 _ (.join x y) _ ((S3.keep0 (Kp.new n4)).fr (((k1.trans k2).trans k3).trans (Kp.new n4)) n5) upd_same ?_ ⟨hx, hy⟩ (by simpa [cntS] using hr1) (by simpa [depS] using hd0) (((k1.trans k2).trans k3).trans ((Kp.new n4).trans (Kp.new n5))) ((S3.keep0 (Kp.new n4)).keep0 (Kp.new n5))
    exact dp_tup ((Kp.new (S := []) n5).tup upd_same) (.cons (.str _) (.cons (.str _) (.cons (.str _) .nil)))
  walk_at "rd"
  have hd1 : 1 ≤ deep := by omega
  obtain ⟨m, rfl⟩ : ∃ m, n = m + 1 := ⟨n - 1, by omega⟩
  replace hO := hO m rfl
  refine r_d (fun c4 => ?_) (fun c4 => ?_)
  · walk_at "rd"
    refine ⟨st, cs, a, b, ns, sc, rfl, S1, L.keep k1, fun v t H2 ht dt k2 S2 => ?_⟩
    have K2 := k1.trans k2
    walk_at "rd"
    refine hO _ _ _ _ ⟨st, cs, a, b, ns, sc, room - 1, deep - 1, rfl, S2, L.keep K2, by omega, by omega, by omega, by omega, fun p3 v3 o3 H3 f3 e3 d3 ok3 cn3 dp3 k3 S3 => ?_⟩
    have np3 := (S2.ne f3).1.symm
    have K3 := K2.trans k3
    walk_at "rd"
    refine r_new (by simp) fun p4 n4 => ?_
    walk_at "rd"
    refine r_new (by simp) fun p5 n5 => ?_
    have S4 := S3.keep0 (Kp.new (o := .tup []) n4)
    have S5 := S4.keep0 (Kp.new (o := .lst [.ref p4, .int 0]) n5)
    have k35 : Kp [st] H3 (upd (upd H3 p4 (.tup [])) p5 (.lst [.ref p4, .int 0])) := (Kp.new n4).trans (Kp.new n5)
    have e45 : (upd (upd H3 p4 (.tup [])) p5 (.lst [.ref p4, .int 0])) p4 = some (.tup []) := (Kp.new (S := []) n5).tup upd_same
    have e55 : (upd (upd H3 p4 (.tup [])) p5 (.lst [.ref p4, .int 0])) p5 = some (.lst [.ref p4, .int 0]) := upd_same
    have np5 : p5 ≠ st := (S4.ne n5).1.symm
    show Evl.tCut _ _ _ _ (upd (upd H3 p4 (.tup [])) p5 (.lst [.ref p4, .int 0]))
    generalize (upd (upd H3 p4 (.tup [])) p5 (.lst [.ref p4, .int 0])) = H5 at S5 k35 e45 e55
    refine r_cut (fun σ' H' => ∃ (pa : Addr) (v6 : V) (o6 : List Stm), σ' = [some (.ref st), some (.ref a), some (.int room), some (.int deep), some (.ref b), some (.int kd), some v, some (.ref p3), some (.ref pa), none] ∧ H' pa = some (.lst [v6, .int (cntO o6 : Nat)]) ∧ Dp K H' v6 (dO o6) ∧ okO sc o6 ∧ (cntO o6 : Int) ≤ room - 1 - cntO o3 ∧ (depO o6 : Int) ≤ deep - 1 ∧
      Kp [st] H5 H' ∧ StoreAt H' st cs) ?_ ?_
    · walk_at "rd"
      refine ⟨st, cs, 2, rfl, S5, by omega, fun r6 H6 _ _ k6 S6 => ?_⟩
      walk_at "rd"
      refine r_d (fun c5 => ?_) (fun c5 => ?_)
      · walk_at "rd"
        refine r_ixL (SqL.of (k6.get (k35.get e3 (by simpa using np3)) (by simpa using np3))) (atI_nat (j := 1) rfl) ?_
        walk_at "rd"
        refine hO _ _ _ _ ⟨st, cs, a, b, ns, sc, room - 1 - (cntO o3 : Nat), deep - 1, rfl, S6, L.keep ((K3.trans k35).trans k6), by omega, by omega, by omega, by omega, fun p7 v7 o7 H7 np7 e7 d7 ok7 cn7 dp7 k7 S7 => ?_⟩
        exact ⟨p7, v7, o7, rfl, e7, d7, ok7, cn7, dp7, k6.trans k7, S7⟩
      · walk_at "rd"
        exact ⟨p5, .ref p4, [], rfl, k6.get e55 (by simpa using np5), dp_tup (k6.tup e45) .nil, by simp only [okO], by simp only [cntO]; omega, by simp only [depO]; omega, k6, S6⟩
    · rintro σ' H' ⟨pa, v6, o6, rfl, e6, d6, ok6, cn6, dp6, k6, S6⟩
      have e3' := k6.get (k35.get e3 (by simpa using np3)) (by simpa using np3)
      have K36 := k35.trans k6
      walk_at "rd"
      refine r_ixL (SqL.of e3') (atI_nat (j := 0) rfl) ?_
      walk_at "rd"
      refine r_ixL (SqL.of e6) (atI_nat (j := 0) rfl) ?_
      walk_at "rd"
      refine r_new (by simp) fun p8 n8 => ?_
      have k8 : Kp [] H' (upd H' p8 (.tup [.str "if", v, v3, v6])) := Kp.new n8
      walk_at "rd"
      refine r_ixL (SqL.of (k8.get e3' (by simp))) (atI_nat (j := 1) rfl) ?_
      walk_at "rd"
      refine r_ixL (SqL.of (k8.get e6 (by simp))) (atI_nat (j := 1) rfl) ?_
      walk_at "rd"
      refine r_new (by simp) fun p9 n9 => ?_
      have k9 : Kp [] H' (upd (upd H' p8 (.tup [.str "if", v, v3, v6])) p9 (.lst [.ref p8, .int (1 + (cntO o3 : Nat) + (cntO o6 : Nat))])) := k8.trans (Kp.new n9)
      refine q p9 (.ref p8) (.ite t o3 o6) _ ((S6.keep0 k8).fr ((K3.trans K36).trans k8.all) n9) ?_ ?_ ?_ ?_ ?_ ((K3.trans K36).trans k9.all) (S6.keep0 k9)
      · rw [upd_same]; simp only [cntS]; push_cast; rfl
      · refine dp_tup ((Kp.new (S := []) n9).tup upd_same) (.cons (.str _) (.cons ?_ (.cons ?_ (.cons ?_ .nil))))
        · exact dp_keep ((k3.trans K36).trans k9.all) _ _ (flat_T t) dt
        · exact dp_keep (K36.trans k9.all) _ _ (flat_O o3) d3
        · exact dp_keep k9 _ _ (flat_O o6) d6
      · simp only [okS]; exact ⟨ht, ok3, ok6⟩
      · simp only [cntS]; push_cast; omega
      · simp only [depS]; omega
  walk_at "rd"
  refine r_d (fun c5 => ?_) (fun c5 => ?_)
  · walk_at "rd"
    refine ⟨st, cs, a, b, ns, sc, rfl, S1, L.keep k1, fun v t H2 ht dt k2 S2 => ?_⟩
    have K2 := k1.trans k2
    walk_at "rd"
    refine hO _ _ _ _ ⟨st, cs, a, b, ns, sc, room - 1, deep - 1, rfl, S2, L.keep K2, by omega, by omega, by omega, by omega, fun p3 v3 o3 H3 f3 e3 d3 ok3 cn3 dp3 k3 S3 => ?_⟩
    have np3 := (S2.ne f3).1.symm
    have K3 := K2.trans k3
    walk_at "rd"
    refine r_ixL (SqL.of e3) (atI_nat (j := 0) rfl) ?_
    walk_at "rd"
    refine r_new (by simp) fun p8 n8 => ?_
    have k8 : Kp [] H3 (upd H3 p8 (.tup [.str "while", v, v3])) := Kp.new n8
    walk_at "rd"
    refine r_ixL (SqL.of (k8.get e3 (by simp))) (atI_nat (j := 1) rfl) ?_
    walk_at "rd"
    refine r_new (by simp) fun p9 n9 => ?_
    have k9 : Kp [] H3 (upd (upd H3 p8 (.tup [.str "while", v, v3])) p9 (.lst [.ref p8, .int (1 + (cntO o3 : Nat))])) := k8.trans (Kp.new n9)
    refine q p9 (.ref p8) (.wh t o3) _ ((S3.keep0 k8).fr (K3.trans k8.all) n9) ?_ ?_ ?_ ?_ ?_ (K3.trans k9.all) (S3.keep0 k9)
    · rw [upd_same]; simp only [cntS]; push_cast; rfl
    · refine dp_tup ((Kp.new (S := []) n9).tup upd_same) (.cons (.str _) (.cons ?_ (.cons ?_ .nil)))
      · exact dp_keep (k3.trans k9.all) _ _ (flat_T t) dt
      · exact dp_keep k9 _ _ (flat_O o3) d3
    · simp only [okS]; exact ⟨ht, ok3⟩
    · simp only [cntS]; push_cast; omega
    · simp only [depS]; omega
  walk_at "rd"
  refine ⟨st, cs, 26, rfl, S1, by omega, fun r2 H2 r20 r21 k2 S2 => ?_⟩
  have K2 := k1.trans k2
  have r22 := r21 (by omega)
  obtain ⟨r, rfl⟩ : ∃ r : Nat, r2 = (r : Int) := ⟨r2.toNat, by omega⟩
  have hr : r < 26 := by omega
  have hL : ("ABCDEFGHIJKLMNOPQRSTUVWXYZ" : Str).cps.toList = (List.range 26).map (· + 65) := by decide +kernel
  refine r_ixS (c := r + 65) (by decide +kernel) (atI_nat (by rw [hL, List.getElem?_map, List.getElem?_range hr]; rfl)) ?_
  have hv : isVar (⟨#[r + 65]⟩ : Str) = true := by
    simp only [isVar, Bool.and_eq_true, decide_eq_true_eq]
    omega
  generalize (⟨#[r + 65]⟩ : Str) = l0 at hv
  walk_at "rd"
  refine r_cut (fun σ' H' => ∃ (l : Str) (o7 o8 o9 : Option V), σ' = [some (.ref st), some (.ref a), some (.int room), some (.int deep), some (.ref b), some (.int kd), o7, o8, o9, some (.str l)] ∧ isVar l = true ∧ Kp [st] H2 H' ∧ StoreAt H' st cs) ?_ ?_
  · walk_at "rd"
    refine r_lenL (SqL.of (L.keep K2).lb) ?_
    walk_at "rd"
    refine r_d (fun c6 => ?_) (fun c6 => ?_)
    · walk_at "rd"
      refine ⟨st, cs, 4, rfl, S2, by omega, fun r3 H3 _ _ k3 S3 => ?_⟩
      walk_at "rd"
      refine r_d (fun c7 => ?_) (fun c7 => ?_)
      · walk_at "rd"
        have hne : sc ≠ [] := by
          intro h0
          rw [h0] at c6
          simp at c6
        refine r_ixL (v := .str (sc.getLast hne)) (SqL.of (L.keep (K2.trans k3)).lb) ?_ ?_
        · have e := List.dropLast_concat_getLast hne
          have e2 : sc.map V.str = sc.dropLast.map V.str ++ [V.str (sc.getLast hne)] := by
            conv => lhs; rw [← e]
            rw [List.map_append]; rfl
          rw [e2]
          exact atI_last _ _
        · exact ⟨_, _, _, _, rfl, L.sv _ (List.getLast_mem hne), k3, S3⟩
      · walk_at "rd"
        exact ⟨_, _, _, _, rfl, hv, k3, S3⟩
    · walk_at "rd"
      exact ⟨_, _, _, _, rfl, hv, .refl, S2⟩
  · rintro σ' H3 ⟨l, o7, o8, o9, rfl, hl, k3, S3⟩
    have K3 := K2.trans k3
    walk_at "rd"
    refine r_new (by simp) fun p4 n4 => ?_
    have S4 := S3.keep0 (Kp.new (o := .lst [.str l]) n4)
    have e4 := (Kp.new (S := []) (o := .lst [.str l]) n4).get (L.keep K3).lb (by simp)
    refine r_addL e4 upd_same (by rw [List.length_map]; simp; omega) fun p5 n5 => ?_
    have S5 := S4.keep0 (Kp.new (o := .lst (sc.map V.str ++ [.str l])) n5)
    have k35 : Kp [st] H3 (upd (upd H3 p4 (.lst [.str l])) p5 (.lst (sc.map V.str ++ [.str l]))) := (Kp.new n4).trans (Kp.new n5)
    have L5 : LotsAt K (upd (upd H3 p4 (.lst [.str l])) p5 (.lst (sc.map V.str ++ [.str l]))) st a p5 ns (sc ++ [l]) := by
      refine { L.keep (K3.trans k35) with lb := ?_, sv := ?_, nb := (S4.ne n5).1.symm, s9 := ?_ }
      · rw [upd_same, List.map_append]; rfl
      · intro z hz
        rcases List.mem_append.mp hz with h | h
        · exact L.sv z h
        · rw [List.mem_singleton.mp h]; exact hl
      · rw [List.length_append]; show _ + 1 ≤ 9; omega
    walk_at "rd"
    refine hO _ _ _ _ ⟨st, cs, a, p5, ns, sc ++ [l], room - 1, deep - 1, rfl, S5, L5, by omega, by omega, by omega, by rw [List.length_append]; show _ + 1 + _ ≤ 9; omega, fun p6 v6 o6 H6 np6 e6 d6 ok6 cn6 dp6 k6 S6 => ?_⟩
    have K6 := (K3.trans k35).trans k6
    walk_at "rd"
    refine r_ixL (SqL.of e6) (atI_nat (j := 0) rfl) ?_
    walk_at "rd"
    refine r_new (by simp) fun p8 n8 => ?_
    have k8 : Kp [] H6 (upd H6 p8 (.tup [.str "each", .str l, v6])) := Kp.new n8
    walk_at "rd"
    refine r_ixL (SqL.of (k8.get e6 (by simp))) (atI_nat (j := 1) rfl) ?_
    walk_at "rd"
    refine r_new (by simp) fun p9 n9 => ?_
    have k9 : Kp [] H6 (upd (upd H6 p8 (.tup [.str "each", .str l, v6])) p9 (.lst [.ref p8, .int (1 + (cntO o6 : Nat))])) := k8.trans (Kp.new n9)
    refine q p9 (.ref p8) (.each l o6) _ ((S6.keep0 k8).fr (K6.trans k8.all) n9) ?_ ?_ ?_ ?_ ?_ (K6.trans k9.all) (S6.keep0 k9)
    · rw [upd_same]; simp only [cntS]; push_cast; rfl
    · exact dp_tup ((Kp.new (S := []) n9).tup upd_same) (.cons (.str _) (.cons (.str _) (.cons (dp_keep k9 _ _ (flat_O o6) d6) .nil)))
    · simp only [okS]
      refine ⟨hl, okO_mono o6 (fun z hz => ?_) ok6⟩
      rcases List.mem_append.mp hz with h | h
      · exact List.mem_cons_of_mem _ h
      · rw [List.mem_singleton.mp h]; exact List.mem_cons_self
    · simp only [cntS]; push_cast; omega
    · simp only [depS]; omega
end
end Hj
end
section
set_option Elab.async false
set_option linter.all false
set_option maxRecDepth 100000
set_option maxHeartbeats 8000000
local macro_rules | `(tactic| walk_at "rd") => `(tactic| repeat (first
  | with_reducible refine Hj.r_seq ?_
  | with_reducible refine Hj.r_nx ?_
  | with_reducible refine Hj.r_rt ?_
  | with_reducible refine L2.iteT ?_
  | with_reducible refine L2.iteF ?_
  | with_reducible refine Hj.r_set ?_
  | with_reducible refine Hj.r_gname ?_
  | with_reducible refine Hj.r_if ?_
  | with_reducible refine Hj.r_ret ?_
  | ((with_reducible show L2.tVar _ _ _ _); refine ⟨_, rfl, ?_⟩)
  | with_reducible refine Hj.r_c ?_
  | with_reducible refine Hj.r_cons ?_
  | with_reducible refine Hj.r_nil ?_
  | with_reducible refine Hj.r_op ?_
  | with_reducible refine Hj.r_test ?_
  | with_reducible refine Hj.r_B ?_
  | with_reducible refine Hj.r_cb ?_
  | with_reducible refine Hj.r_blV ?_
  | with_reducible refine Hj.r_and ?_
  | with_reducible refine Hj.r_or ?_
  | with_reducible refine Hj.r_not ?_
  | with_reducible refine Hj.r_call ?_
  | with_reducible refine Hj.r_tup ?_
  | with_reducible refine Hj.r_lst ?_
  | with_reducible refine Hj.r_eqS ?_
  | with_reducible refine Hj.r_eqI ?_
  | with_reducible refine Hj.r_neS ?_
  | with_reducible refine Hj.r_neI ?_
  | with_reducible refine Hj.r_isN ?_
  | with_reducible refine Hj.r_I0 ?_
  | with_reducible refine Hj.r_addI ?_
  | with_reducible refine Hj.r_intOf ?_
  | with_reducible refine Hj.r_mx ?_
  | with_reducible refine Hj.r_un ?_
  | with_reducible refine Hj.r_neg ?_
  | with_reducible refine Hj.r_drop ?_
  | with_reducible refine Hj.r_next ?_
  | with_reducible refine Hj.r_retN ?_
  | with_reducible refine Hj.r_sub ?_
  | with_reducible refine Hj.r_asg ?_
  | with_reducible refine Hj.r_bm ?_
  | with_reducible refine Hj.r_bm0 ?_
  | with_reducible refine Hj.r_meth ?_
  | with_reducible refine Hj.r_make ?_
  | with_reducible refine Hj.r_fldE ?_
  | with_reducible refine Hj.r_setF ?_
  | with_reducible refine Hj.r_sl ?_
  | with_reducible refine Hj.r_no ?_
  | with_reducible refine Hj.r_part ?_
  | with_reducible refine Hj.r_partI ?_
  | with_reducible refine Hj.r_m1 ?_
  | with_reducible refine Hj.r_strs ?_
  | with_reducible refine Hj.r_andV ?_
  | with_reducible refine Hj.r_orV ?_
  | with_reducible refine Hj.r_notV ?_
  | with_reducible refine Hj.r_for ?_
  | with_reducible refine Hj.r_rng ?_
  | with_reducible refine Hj.r_itL ?_
  | with_reducible refine Hj.r_itT ?_
  | with_reducible refine Hj.r_itS ?_
  | with_reducible refine Hj.r_itSE ?_))
local macro_rules | `(tactic| walk_at "cl") => `(tactic| ((try dsimp only [L2.cxOf, L2.Cx.nox]); simp only [L2.start, List.map, List.length, List.replicate, List.cons_append, List.nil_append, Nat.reduceAdd, Nat.reduceSub]))
local macro_rules | `(tactic| walk_at "len") => `(tactic| (intro vs H Q E h; first
  | (obtain ⟨_, ee, _⟩ := h; subst ee; rfl) | (obtain ⟨_, _, ee, _⟩ := h; subst ee; rfl) | (obtain ⟨_, _, _, ee, _⟩ := h; subst ee; rfl) | (obtain ⟨_, _, _, _, ee, _⟩ := h; subst ee; rfl) | (obtain ⟨_, _, _, _, _, ee, _⟩ := h; subst ee; rfl) | (obtain ⟨_, _, _, _, _, _, ee, _⟩ := h; subst ee; rfl)
  | (obtain ⟨_, _, _, _, _, _, _, ee, _⟩ := h; subst ee; rfl) | (obtain ⟨_, _, _, _, _, _, _, _, ee, _⟩ := h; subst ee; rfl) | (obtain ⟨_, _, _, _, _, _, _, _, _, ee, _⟩ := h; subst ee; rfl) | (obtain ⟨_, _, _, _, _, _, _, _, _, _, ee, _⟩ := h; subst ee; rfl)))
namespace Hj
open PySem PySem.Spec L2
section
variable {P : Program} {w : World} {K : PySem.W.Frag} {mg : Str → Option Value} {base : Heap}
theorem dO_app (a b : List Stm) : dL (a ++ b) = dL a ++ dL b := dL_app a b
theorem sc_law_order : FnScope ["_law_store_here", "_law_lot_names", "_law_room", "_law_deep", "_law_scope", "_law_made", "_law_used", "_law_k", "_law_one_statement"] ["_law_store_here", "_law_lot_names", "_law_room", "_law_deep", "_law_scope"] (defScope s_law_order) := ⟨rfl, rfl, rfl, by decide +kernel, rfl, by decide +kernel, by decide +kernel⟩
theorem ok_law_order {k n : Nat} (hk : 6 ≤ k) {f : Addr} {fd : FuncData} (F : Fun K "_law_order" "_law_order" s_law_order f fd) (T : Txt P K mg) (D_law_number : Dn P w K mg base CX0 k "_law_number" ["_law_store_here", "_law_low", "_law_high"] spNumber)
    (D_law_statement : Dn P w K mg base CX0 k "_law_statement" psOrd (spStmt K n)) : FnOk P w K mg base CX0 (k + 1) f fd psOrd (spOrd K n) := by
  refine F.ok sc_law_order ?_ (fun cdv A outer s H vs Q E hr0 h => ?_)
  · walk_at "len"
  obtain ⟨st, cs, a, b, ns, sc, room, deep, rfl, S, L, hr1, hd0, hdn, hsd, q⟩ := h
  refine ⟨_, (pss_cons (ps_set (i := 5) sc_law_order.nd rfl (Or.inl rfl) (pe_lst pa_nil)) (pss_cons (ps_set (i := 6) sc_law_order.nd rfl (Or.inl rfl) pe_int) (pss_cons (ps_for PassesOwn.never rfl (pi_range1 rfl T.zrange (pa_cons (pe_d D_law_number hr0 pass0 (pa_cons (pv 0) (pa_cons pe_int (pa_cons pe_int pa_nil)))) pa_nil)) (pg_name (i := 7) sc_law_order.nd rfl (Or.inl rfl)) (pss_one (ps_if (pt_cmpR op_lt (pv 6) (pv 2) (nomark _)) (pss_cons (ps_set (i := 8) sc_law_order.nd rfl (Or.inl rfl) (pe_d D_law_statement hr0 pass0 (pa_cons (pv 0) (pa_cons (pv 1) (pa_cons (pe_op op_sub (pv 2) (pv 6)) (pa_cons (pv 3) (pa_cons (pv 4) pa_nil))))))) (pss_cons (ps_expr (pe_bm PySem.F.plainAttrs_list PySem.F.slot_list_append PySem.F.type_list_append mt_append (pv 5) (pa_cons (pe_ix ix_seq (pv 8) pe_int (fun _ _ => rfl)) pa_nil))) (pss_one (ps_set (i := 6) sc_law_order.nd rfl (Or.inl rfl) (pe_op opAdd (pv 6) (pe_ix ix_seq (pv 8) pe_int (fun _ _ => rfl))))))) pss_nil))) (pss_one (ps_ret (pe_lst (pa_cons (pe_callTy call_tupOf (by rfl) T.ztuple (by decide +kernel) (pa_cons (pv 5) pa_nil)) (pa_cons (pv 6) pa_nil)))))))), ?_⟩
  walk_at "cl"
  walk_at "rd"
  refine r_new (by simp) fun pm nm => ?_
  have npm : pm ≠ st := (S.ne nm).1.symm
  walk_at "rd"
  refine ⟨st, cs, 0, 4, rfl, S.keep0 (Kp.new nm), by omega, fun r H1 hr0 hr4 k1 S1 => ?_⟩
  have hr4 := hr4 (by omega)
  have K1 : Kp [st] H H1 := (Kp.new nm).trans k1
  have e1 : H1 pm = some (.lst []) := k1.get upd_same (by simpa using npm)
  walk_at "rd"
  refine r_rngE (by omega) (by omega) ?_
  refine for_range (lo := 0) (n := r.toNat) (fun i σ' H' => ∃ (o : List Stm) (vs : List V) (o7 o8 : Option V), σ' = [some (.ref st), some (.ref a), some (.int room), some (.int deep), some (.ref b), some (.ref pm), some (.int (cntO o : Nat)), o7, o8] ∧ H' pm = some (.lst vs) ∧ DpAll K H' vs (dL o) ∧ okO sc o ∧ (cntO o : Int) ≤ room ∧
    (depO o : Int) ≤ deep ∧ Kp [st] H H' ∧ StoreAt H' st cs ∧ o.length ≤ i) ⟨[], [], _, _, by simp only [cntO]; rfl, e1, .nil, by simp only [okO], by simp only [cntO]; omega, by simp only [depO]; omega, K1, S1, Nat.le_refl _⟩ ?_ ?_
  · rintro i σ' H' hi ⟨o, vs, o7, o8, rfl, e2, d2, ok2, cn2, dp2, K2, S2, l2⟩
    walk_at "rd"
    refine r_d (fun c1 => ?_) (fun c1 => ?_)
    · walk_at "rd"
      refine ⟨st, cs, a, b, ns, sc, room - (cntO o : Nat), deep, rfl, S2, L.keep K2, by omega, hd0, hdn, hsd, fun p v t H3 f3 e3 d3 ok3 cn3 dp3 k3 S3 => ?_⟩
      have e4 := k3.get e2 (by simpa using npm)
      walk_at "rd"
      refine r_tyL (SqL.of e4) ?_
      walk_at "rd"
      refine r_ixL (SqL.of e3) (atI_nat (j := 0) rfl) ?_
      have lv : vs.length = o.length := by rw [DpAll.len d2, dL_len]
      walk_at "rd"
      refine r_app e4 (by omega) ?_
      have n34 : p ≠ pm := (ne_of_none e2 f3).symm
      walk_at "rd"
      refine r_ixL (SqL.of (by rw [upd_ne n34]; exact e3)) (atI_nat (j := 1) rfl) ?_
      have kp : Kp [pm] H3 (upd H3 pm (.lst (vs ++ [v]))) := Kp.put (by simp) e4 (fun z => z)
      walk_at "rd"
      refine ⟨o ++ [t], vs ++ [v], some (.int (0 + (i : Int))), some (.ref p), ?_, upd_same, ?_, (okO_app o [t]).mpr ⟨ok2, okO_one ok3⟩, ?_, ?_, (K2.trans k3).putN nm, S.putN nm S3, by rw [List.length_append]; show _ + 1 ≤ _; omega⟩
      · rw [cntO_app, cntO_one, Int.natCast_add]; rfl
      · rw [dL_app]
        refine DpAll.app (dps_keep ((k3.mono (by simp)).trans (kp.mono (S' := [st, pm]) (by simp))) _ _ (flat_L o) d2) (.cons (dp_keep kp _ _ (flat_S t) d3) .nil)
      · rw [cntO_app, cntO_one]; push_cast; omega
      · rw [depO_app, depO_one]; omega
    · walk_at "rd"
      exact ⟨o, vs, _, _, rfl, e2, d2, ok2, cn2, dp2, K2, S2, by omega⟩
  · rintro σ' H' ⟨o, vs, o7, o8, rfl, e2, d2, ok2, cn2, dp2, K2, S2, l2⟩
    walk_at "rd"
    refine r_tupOf (SqL.of e2) fun p3 n3 => ?_
    walk_at "rd"
    refine r_new (by simp) fun p4 n4 => ?_
    have S3 := S2.keep0 (Kp.new (o := .tup vs) n3)
    have k34 : Kp [] H' (upd (upd H' p3 (.tup vs)) p4 (.lst [.ref p3, .int (cntO o : Nat)])) := (Kp.new n3).trans (Kp.new n4)
    exact q p4 (.ref p3) o _ (S3.fr (K2.trans (Kp.new n3)) n4) upd_same (dp_tup ((Kp.new (S := []) n4).tup upd_same) (dps_keep k34 _ _ (flat_L o) d2)) ok2 cn2 dp2 (K2.trans k34.all) (S2.keep0 k34)
end
end Hj
end
section
set_option Elab.async false
set_option linter.all false
set_option maxRecDepth 100000
set_option maxHeartbeats 2000000
namespace Hj
open PySem PySem.Spec L2
/-! ### readings that tell of the memory only what is kept and what is new -/
section
variable {K : PySem.W.Frag} {σ : St} {H : Hp} {tg : TA} {Q : VK} {xs ys : List V} {us vs : List Str} {a b l : Addr} {y : V}
def newL (xs : List V) (H : Hp) (Q : VK) : Prop := xs.length ≤ sizeLine ∧ ∀ p, H p = none → Q (.ref p) (upd H p (.lst xs))
def newT (xs : List V) (H : Hp) (Q : VK) : Prop := xs.length ≤ sizeLine ∧ ∀ p, H p = none → Q (.ref p) (upd H p (.tup xs))
theorem r_lstK (h : tg σ H fun xs H1 => newL xs H1 Q) : tLst tg σ H Q := h
theorem r_tupK (h : tg σ H fun xs H1 => newT xs H1 Q) : tTup tg σ H Q := h
theorem r_revL {te : TE} (h : te σ H fun x H1 => ∃ a xs, x = .ref a ∧ SqL K H1 a xs ∧ ∀ p, H1 p = none → Q (.ref p) (upd H1 p (.lst xs.reverse))) : tRevL K te σ H Q := h
theorem r_newL (hz : xs.length ≤ 1000000) (h : ∀ p H2, H p = none → Kp [] H H2 → H2 p = some (.lst xs) → Q (.ref p) H2) : newL xs H Q := ⟨sz hz, fun p hp => h p _ hp (Kp.new hp) upd_same⟩
theorem r_newT (hz : xs.length ≤ 1000000) (h : ∀ p H2, H p = none → Kp [] H H2 → H2 p = some (.tup xs) → Q (.ref p) H2) : newT xs H Q := ⟨sz hz, fun p hp => h p _ hp (Kp.new hp) upd_same⟩
theorem r_catK (ha : H a = some (.lst (us.map V.str))) (hb : H b = some (.lst (vs.map V.str))) (hz : us.length + vs.length ≤ 1000000)
    (h : ∀ p H2, H p = none → Kp [] H H2 → H2 p = some (.lst ((us ++ vs).map V.str)) → Q (.ref p) H2) : rAdd3 (.ref a) (.ref b) H Q :=
  r_addL ha hb (by rw [List.length_map, List.length_map]; exact hz) fun p hp => h p _ hp (Kp.new hp) (by rw [upd_same, List.map_append])
theorem r_lstOfTK (hx : SqT K H a xs) (h : ∀ p H2, H p = none → Kp [] H H2 → H2 p = some (.lst xs) → Q (.ref p) H2) : rLstOf K [.ref a] H Q := r_lstOfT hx fun p hp => h p _ hp (Kp.new hp) upd_same
theorem r_lstOfLK (hx : SqL K H a xs) (h : ∀ p H2, H p = none → Kp [] H H2 → H2 p = some (.lst xs) → Q (.ref p) H2) : rLstOf K [.ref a] H Q := r_lstOfL hx fun p hp => h p _ hp (Kp.new hp) upd_same
theorem r_tupOfK (hx : SqL K H a xs) (h : ∀ p H2, H p = none → Kp [] H H2 → H2 p = some (.tup xs) → Q (.ref p) H2) : rTupOf K [.ref a] H Q := r_tupOf hx fun p hp => h p _ hp (Kp.new hp) upd_same
theorem r_slLK {lo hi : Option Int} (hx : SqL K H a xs) (h : ∀ p H2, H p = none → Kp [] H H2 → H2 p = some (.lst (cutV xs lo hi)) → Q (.ref p) H2) : rSl3 K (.ref a) lo hi H Q := r_slL hx fun p hp => h p _ hp (Kp.new hp) upd_same
theorem r_appK (hl : H l = some (.lst xs)) (hz : xs.length < 1000000) (h : ∀ H2, Kp [l] H H2 → H2 l = some (.lst (xs ++ [y])) → Q .non H2) : rAppend (.ref l) [y] H Q := r_app hl hz (h _ (Kp.put (by simp) hl (fun z => z)) upd_same)
theorem r_extK (hl : H l = some (.lst xs)) (hb : H b = some (.lst ys)) (hz : xs.length + ys.length ≤ 1000000) (h : ∀ H2, Kp [l] H H2 → H2 l = some (.lst (xs ++ ys)) → Q .non H2) : rExtend (.ref l) [.ref b] H Q := r_ext hl hb hz (h _ (Kp.put (by simp) hl (fun z => z)) upd_same)
theorem r_popK (hl : H l = some (.lst xs)) (hy : xs[xs.length - 1]? = some y) (h : ∀ H2, Kp [l] H H2 → H2 l = some (.lst xs.dropLast) → Q y H2) : rPop (.ref l) [] H Q := r_pop hl hy (h _ (Kp.put (by simp) hl (fun z => z)) upd_same)
theorem r_putK {a C dx : Addr} {fs : List (Str × V)} {f : Str} {N : Hp → Prop} (ho : H a = some (.ins C dx fs)) (c : Cls K C) (n : NoAttr K C f) (l : fs.length < 1000) (h : ∀ H2, Kp [a] H H2 → H2 a = some (.ins C dx (putF f y fs)) → N H2) : ∃ a' C' dx' fs', V.ref a = .ref a' ∧ H a' = some (.ins C' dx' fs') ∧ Cls K C' ∧ NoAttr K C' f ∧ fs'.length < 1000 ∧ N (upd H a' (.ins C' dx' (putF f y fs'))) :=
  r_put ho c n l (h _ (Kp.put (by simp) ho (fun z => z)) upd_same)
end
section
variable {K : PySem.W.Frag} {H : Hp}
theorem dp_tupI {v : V} {ds : List PyData} (h : Dp K H v (.tuple ds)) : ∃ p xs, v = .ref p ∧ SqT K H p xs ∧ DpAll K H xs ds := by
  cases h with
  | tup h1 h2 => exact ⟨_, _, rfl, h1, h2⟩
theorem dp_strI {v : V} {s : Str} (h : Dp K H v (.str s)) : v = .str s := by cases h; rfl
theorem dps_consI {xs : List V} {d : PyData} {ds : List PyData} (h : DpAll K H xs (d :: ds)) : ∃ x ys, xs = x :: ys ∧ Dp K H x d ∧ DpAll K H ys ds := by
  cases h with
  | cons h1 h2 => exact ⟨_, _, rfl, h1, h2⟩
theorem dps_nilI {xs : List V} (h : DpAll K H xs []) : xs = [] := by cases h; rfl
theorem dps_str3 {xs : List V} {a b c : Str} (h : DpAll K H xs [.str a, .str b, .str c]) : xs = [.str a, .str b, .str c] := by
  obtain ⟨x, ys, rfl, h1, h⟩ := dps_consI h
  obtain ⟨y, ys, rfl, h2, h⟩ := dps_consI h
  obtain ⟨z, ys, rfl, h3, h⟩ := dps_consI h
  rw [dp_strI h1, dp_strI h2, dp_strI h3, dps_nilI h]
/-- a test, as it lies there -/
theorem dT_view {v : V} {t : Tst} (h : Dp K H v (dT t)) : ∃ p, v = .ref p ∧ ((t.neg = false ∧ SqT K H p [.str t.w, .str t.x, .str t.y]) ∨ (t.neg = true ∧ ∃ q, SqT K H p [.str kNot, .ref q] ∧ SqT K H q [.str t.w, .str t.x, .str t.y])) := by
  unfold dT at h
  split at h
  · next hn =>
    obtain ⟨p, xs, rfl, h1, h2⟩ := dp_tupI h
    obtain ⟨x, ys, rfl, h3, h4⟩ := dps_consI h2
    obtain ⟨y, ys, rfl, h5, h6⟩ := dps_consI h4
    obtain rfl := dps_nilI h6
    obtain ⟨q, zs, rfl, h7, h8⟩ := dp_tupI h5
    obtain rfl := dps_str3 h8
    rw [dp_strI h3] at h1
    exact ⟨p, rfl, .inr ⟨hn, q, h1, h7⟩⟩
  · next hn =>
    obtain ⟨p, xs, rfl, h1, h2⟩ := dp_tupI h
    obtain rfl := dps_str3 h2
    exact ⟨p, rfl, .inl ⟨by simpa using hn, h1⟩⟩
theorem dT_plain {q : Addr} {t : Tst} (hn : t.neg = false) (h : SqT K H q [.str t.w, .str t.x, .str t.y]) : Dp K H (.ref q) (dT t) := by
  unfold dT
  rw [if_neg (by rw [hn]; simp)]
  exact .tup h (DpAll.strs [t.w, t.x, t.y])
theorem dT_not {p q : Addr} {t : Tst} (hn : t.neg = true) (h : SqT K H p [.str kNot, .ref q]) (h2 : SqT K H q [.str t.w, .str t.x, .str t.y]) : Dp K H (.ref p) (dT t) := by
  unfold dT
  rw [if_pos hn]
  exact .tup h (.cons (.str _) (.cons (.tup h2 (DpAll.strs [t.w, t.x, t.y])) .nil))
end
end Hj
end
section
set_option Elab.async false
set_option linter.all false
set_option maxRecDepth 100000
set_option maxHeartbeats 8000000
local macro_rules | `(tactic| walk_at "rd") => `(tactic| repeat (first
  | with_reducible refine Hj.r_seq ?_
  | with_reducible refine Hj.r_nx ?_
  | with_reducible refine Hj.r_rt ?_
  | with_reducible refine L2.iteT ?_
  | with_reducible refine L2.iteF ?_
  | with_reducible refine Hj.r_set ?_
  | with_reducible refine Hj.r_gname ?_
  | with_reducible refine Hj.r_if ?_
  | with_reducible refine Hj.r_ret ?_
  | ((with_reducible show L2.tVar _ _ _ _); refine ⟨_, rfl, ?_⟩)
  | with_reducible refine Hj.r_c ?_
  | with_reducible refine Hj.r_cons ?_
  | with_reducible refine Hj.r_nil ?_
  | with_reducible refine Hj.r_op ?_
  | with_reducible refine Hj.r_test ?_
  | with_reducible refine Hj.r_B ?_
  | with_reducible refine Hj.r_cb ?_
  | with_reducible refine Hj.r_blV ?_
  | with_reducible refine Hj.r_and ?_
  | with_reducible refine Hj.r_or ?_
  | with_reducible refine Hj.r_not ?_
  | with_reducible refine Hj.r_call ?_
  | with_reducible refine Hj.r_tup ?_
  | with_reducible refine Hj.r_lst ?_
  | with_reducible refine Hj.r_eqS ?_
  | with_reducible refine Hj.r_eqI ?_
  | with_reducible refine Hj.r_neS ?_
  | with_reducible refine Hj.r_neI ?_
  | with_reducible refine Hj.r_isN ?_
  | with_reducible refine Hj.r_I0 ?_
  | with_reducible refine Hj.r_addI ?_
  | with_reducible refine Hj.r_intOf ?_
  | with_reducible refine Hj.r_mx ?_
  | with_reducible refine Hj.r_un ?_
  | with_reducible refine Hj.r_neg ?_
  | with_reducible refine Hj.r_drop ?_
  | with_reducible refine Hj.r_next ?_
  | with_reducible refine Hj.r_retN ?_
  | with_reducible refine Hj.r_sub ?_
  | with_reducible refine Hj.r_asg ?_
  | with_reducible refine Hj.r_bm ?_
  | with_reducible refine Hj.r_bm0 ?_
  | with_reducible refine Hj.r_meth ?_
  | with_reducible refine Hj.r_make ?_
  | with_reducible refine Hj.r_fldE ?_
  | with_reducible refine Hj.r_setF ?_
  | with_reducible refine Hj.r_sl ?_
  | with_reducible refine Hj.r_no ?_
  | with_reducible refine Hj.r_part ?_
  | with_reducible refine Hj.r_partI ?_
  | with_reducible refine Hj.r_m1 ?_
  | with_reducible refine Hj.r_strs ?_
  | with_reducible refine Hj.r_andV ?_
  | with_reducible refine Hj.r_orV ?_
  | with_reducible refine Hj.r_notV ?_
  | with_reducible refine Hj.r_for ?_
  | with_reducible refine Hj.r_rng ?_
  | with_reducible refine Hj.r_itL ?_
  | with_reducible refine Hj.r_itT ?_
  | with_reducible refine Hj.r_itS ?_
  | with_reducible refine Hj.r_itSE ?_))
local macro_rules | `(tactic| walk_at "rk") => `(tactic| repeat (first
  | with_reducible refine Hj.r_seq ?_
  | with_reducible refine Hj.r_nx ?_
  | with_reducible refine Hj.r_rt ?_
  | with_reducible refine L2.iteT ?_
  | with_reducible refine L2.iteF ?_
  | with_reducible refine Hj.r_set ?_
  | with_reducible refine Hj.r_gname ?_
  | with_reducible refine Hj.r_if ?_
  | with_reducible refine Hj.r_ret ?_
  | ((with_reducible show L2.tVar _ _ _ _); refine ⟨_, rfl, ?_⟩)
  | with_reducible refine Hj.r_c ?_
  | with_reducible refine Hj.r_cons ?_
  | with_reducible refine Hj.r_nil ?_
  | with_reducible refine Hj.r_op ?_
  | with_reducible refine Hj.r_test ?_
  | with_reducible refine Hj.r_B ?_
  | with_reducible refine Hj.r_cb ?_
  | with_reducible refine Hj.r_blV ?_
  | with_reducible refine Hj.r_and ?_
  | with_reducible refine Hj.r_or ?_
  | with_reducible refine Hj.r_not ?_
  | with_reducible refine Hj.r_call ?_
  | with_reducible refine Hj.r_tupK ?_
  | with_reducible refine Hj.r_lstK ?_
  | with_reducible refine Hj.r_eqS ?_
  | with_reducible refine Hj.r_eqI ?_
  | with_reducible refine Hj.r_neS ?_
  | with_reducible refine Hj.r_neI ?_
  | with_reducible refine Hj.r_isN ?_
  | with_reducible refine Hj.r_I0 ?_
  | with_reducible refine Hj.r_addI ?_
  | with_reducible refine Hj.r_intOf ?_
  | with_reducible refine Hj.r_mx ?_
  | with_reducible refine Hj.r_un ?_
  | with_reducible refine Hj.r_neg ?_
  | with_reducible refine Hj.r_drop ?_
  | with_reducible refine Hj.r_next ?_
  | with_reducible refine Hj.r_retN ?_
  | with_reducible refine Hj.r_sub ?_
  | with_reducible refine Hj.r_asg ?_
  | with_reducible refine Hj.r_bm ?_
  | with_reducible refine Hj.r_bm0 ?_
  | with_reducible refine Hj.r_meth ?_
  | with_reducible refine Hj.r_make ?_
  | with_reducible refine Hj.r_fldE ?_
  | with_reducible refine Hj.r_setF ?_
  | with_reducible refine Hj.r_sl ?_
  | with_reducible refine Hj.r_no ?_
  | with_reducible refine Hj.r_part ?_
  | with_reducible refine Hj.r_partI ?_
  | with_reducible refine Hj.r_m1 ?_
  | with_reducible refine Hj.r_strs ?_
  | with_reducible refine Hj.r_andV ?_
  | with_reducible refine Hj.r_orV ?_
  | with_reducible refine Hj.r_notV ?_
  | with_reducible refine Hj.r_for ?_
  | with_reducible refine Hj.r_rng ?_
  | with_reducible refine Hj.r_itL ?_
  | with_reducible refine Hj.r_itT ?_
  | with_reducible refine Hj.r_itS ?_
  | with_reducible refine Hj.r_itSE ?_))
local macro_rules | `(tactic| walk_at "cl") => `(tactic| ((try dsimp only [L2.cxOf, L2.Cx.nox]); simp only [L2.start, List.map, List.length, List.replicate, List.cons_append, List.nil_append, Nat.reduceAdd, Nat.reduceSub]))
local macro_rules | `(tactic| walk_at "len") => `(tactic| (intro vs H Q E h; first
  | (obtain ⟨_, ee, _⟩ := h; subst ee; rfl) | (obtain ⟨_, _, ee, _⟩ := h; subst ee; rfl) | (obtain ⟨_, _, _, ee, _⟩ := h; subst ee; rfl) | (obtain ⟨_, _, _, _, ee, _⟩ := h; subst ee; rfl) | (obtain ⟨_, _, _, _, _, ee, _⟩ := h; subst ee; rfl) | (obtain ⟨_, _, _, _, _, _, ee, _⟩ := h; subst ee; rfl)
  | (obtain ⟨_, _, _, _, _, _, _, ee, _⟩ := h; subst ee; rfl) | (obtain ⟨_, _, _, _, _, _, _, _, ee, _⟩ := h; subst ee; rfl) | (obtain ⟨_, _, _, _, _, _, _, _, _, ee, _⟩ := h; subst ee; rfl) | (obtain ⟨_, _, _, _, _, _, _, _, _, _, ee, _⟩ := h; subst ee; rfl)))
namespace Hj
open PySem PySem.Spec L2
section
variable {P : Program} {w : World} {K : PySem.W.Frag} {mg : Str → Option Value} {base : Heap}
/-! ### _law_test_words -/
def spTW (K : PySem.W.Frag) : Sp := fun vs H Q _ => ∃ (v : V) (t : Tst), vs = [v] ∧ Dp K H v (dT t) ∧ ¬ t.w = kNot ∧ ∀ (p : Addr) (H' : Hp), H p = none → Kp [] H H' → H' p = some (.lst ((wT t).map V.str)) → Q (.ref p) H'
theorem sc_law_test_words : FnScope ["_law_some_test"] ["_law_some_test"] (defScope s_law_test_words) := ⟨rfl, rfl, rfl, by decide +kernel, rfl, by decide +kernel, by decide +kernel⟩
theorem ok_law_test_words {f : Addr} {fd : FuncData} (F : Fun K "_law_test_words" "_law_test_words" s_law_test_words f fd) (T : Txt P K mg) : FnOk P w K mg base CX0 1 f fd ["_law_some_test"] (spTW K) := by
  refine F.ok sc_law_test_words ?_ (fun cdv A outer s H vs Q E hr0 h => ?_)
  · walk_at "len"
  obtain ⟨v, t, rfl, dt, tn, q⟩ := h
  obtain ⟨p, rfl, ⟨hn, h1⟩ | ⟨hn, p2, h1, h2⟩⟩ := dT_view dt
  · refine ⟨_, (pss_cons (ps_if (pt_cmpR op_eq (pe_ix ix_seq (pv 0) pe_int (fun _ _ => rfl)) pe_str (nomark _)) (pss_one (ps_ret (pe_op opAdd (pe_lst (pa_cons pe_str pa_nil)) (pe_callTy call_lstOf (by rfl) T.zlist (by decide +kernel) (pa_cons (pe_ix ix_seq (pv 0) pe_int (fun _ _ => rfl)) pa_nil))))) pss_nil) (pss_one (ps_ret (pe_callTy call_lstOf (by rfl) T.zlist (by decide +kernel) (pa_cons (pv 0) pa_nil))))), ?_⟩
    walk_at "cl"
    walk_at "rk"
    refine r_ixT h1 (atI_nat (j := 0) rfl) ?_
    walk_at "rk"
    refine r_F (decide_eq_false tn) ?_
    walk_at "rk"
    refine r_lstOfTK h1 fun p3 H3 n3 k3 e3 => ?_
    have e : wT t = [t.w, t.x, t.y] := by simp [wT, hn]
    rw [e] at q
    exact q p3 H3 n3 k3 e3
  · refine ⟨_, (pss_cons (ps_if (pt_cmpR op_eq (pe_ix ix_seq (pv 0) pe_int (fun _ _ => rfl)) pe_str (nomark _)) (pss_one (ps_ret (pe_op opAdd (pe_lst (pa_cons pe_str pa_nil)) (pe_callTy call_lstOf (by rfl) T.zlist (by decide +kernel) (pa_cons (pe_ix ix_seq (pv 0) pe_int (fun _ _ => rfl)) pa_nil))))) pss_nil) (pss_one (ps_ret (pe_callTy call_lstOf (by rfl) T.zlist (by decide +kernel) (pa_cons (pv 0) pa_nil))))), ?_⟩
    walk_at "cl"
    walk_at "rk"
    refine r_ixT h1 (atI_nat (j := 0) rfl) ?_
    walk_at "rk"
    refine r_T (by decide +kernel) ?_
    walk_at "rk"
    refine r_newL (by simp) fun p3 H3 n3 k3 e3 => ?_
    walk_at "rk"
    refine r_ixT (k3.sqT h1) (atI_nat (j := 1) rfl) ?_
    walk_at "rk"
    refine r_lstOfTK (k3.sqT h2) fun p4 H4 n4 k4 e4 => ?_
    walk_at "rk"
    have e : wT t = [kNot] ++ [t.w, t.x, t.y] := by simp [wT, hn]
    rw [e] at q
    refine r_catK (us := [kNot]) (vs := [t.w, t.x, t.y]) (k4.get e3 (by simp)) e4 (by simp) fun p5 H5 n5 k5 e5 => ?_
    exact q p5 H5 ((k3.trans k4).free0 n5) ((k3.trans k4).trans k5) e5
end
end Hj
end
section
set_option Elab.async false
set_option linter.all false
set_option maxRecDepth 100000
set_option maxHeartbeats 16000000
local macro_rules | `(tactic| walk_at "rd") => `(tactic| repeat (first
  | with_reducible refine Hj.r_seq ?_
  | with_reducible refine Hj.r_nx ?_
  | with_reducible refine Hj.r_rt ?_
  | with_reducible refine L2.iteT ?_
  | with_reducible refine L2.iteF ?_
  | with_reducible refine Hj.r_set ?_
  | with_reducible refine Hj.r_gname ?_
  | with_reducible refine Hj.r_if ?_
  | with_reducible refine Hj.r_ret ?_
  | ((with_reducible show L2.tVar _ _ _ _); refine ⟨_, rfl, ?_⟩)
  | with_reducible refine Hj.r_c ?_
  | with_reducible refine Hj.r_cons ?_
  | with_reducible refine Hj.r_nil ?_
  | with_reducible refine Hj.r_op ?_
  | with_reducible refine Hj.r_test ?_
  | with_reducible refine Hj.r_B ?_
  | with_reducible refine Hj.r_cb ?_
  | with_reducible refine Hj.r_blV ?_
  | with_reducible refine Hj.r_and ?_
  | with_reducible refine Hj.r_or ?_
  | with_reducible refine Hj.r_not ?_
  | with_reducible refine Hj.r_call ?_
  | with_reducible refine Hj.r_tup ?_
  | with_reducible refine Hj.r_lst ?_
  | with_reducible refine Hj.r_eqS ?_
  | with_reducible refine Hj.r_eqI ?_
  | with_reducible refine Hj.r_neS ?_
  | with_reducible refine Hj.r_neI ?_
  | with_reducible refine Hj.r_isN ?_
  | with_reducible refine Hj.r_I0 ?_
  | with_reducible refine Hj.r_addI ?_
  | with_reducible refine Hj.r_intOf ?_
  | with_reducible refine Hj.r_mx ?_
  | with_reducible refine Hj.r_un ?_
  | with_reducible refine Hj.r_neg ?_
  | with_reducible refine Hj.r_drop ?_
  | with_reducible refine Hj.r_next ?_
  | with_reducible refine Hj.r_retN ?_
  | with_reducible refine Hj.r_sub ?_
  | with_reducible refine Hj.r_asg ?_
  | with_reducible refine Hj.r_bm ?_
  | with_reducible refine Hj.r_bm0 ?_
  | with_reducible refine Hj.r_meth ?_
  | with_reducible refine Hj.r_make ?_
  | with_reducible refine Hj.r_fldE ?_
  | with_reducible refine Hj.r_setF ?_
  | with_reducible refine Hj.r_sl ?_
  | with_reducible refine Hj.r_no ?_
  | with_reducible refine Hj.r_part ?_
  | with_reducible refine Hj.r_partI ?_
  | with_reducible refine Hj.r_m1 ?_
  | with_reducible refine Hj.r_strs ?_
  | with_reducible refine Hj.r_andV ?_
  | with_reducible refine Hj.r_orV ?_
  | with_reducible refine Hj.r_notV ?_
  | with_reducible refine Hj.r_for ?_
  | with_reducible refine Hj.r_rng ?_
  | with_reducible refine Hj.r_itL ?_
  | with_reducible refine Hj.r_itT ?_
  | with_reducible refine Hj.r_itS ?_
  | with_reducible refine Hj.r_itSE ?_))
local macro_rules | `(tactic| walk_at "rk") => `(tactic| repeat (first
  | with_reducible refine Hj.r_seq ?_
  | with_reducible refine Hj.r_nx ?_
  | with_reducible refine Hj.r_rt ?_
  | with_reducible refine L2.iteT ?_
  | with_reducible refine L2.iteF ?_
  | with_reducible refine Hj.r_set ?_
  | with_reducible refine Hj.r_gname ?_
  | with_reducible refine Hj.r_if ?_
  | with_reducible refine Hj.r_ret ?_
  | ((with_reducible show L2.tVar _ _ _ _); refine ⟨_, rfl, ?_⟩)
  | with_reducible refine Hj.r_c ?_
  | with_reducible refine Hj.r_cons ?_
  | with_reducible refine Hj.r_nil ?_
  | with_reducible refine Hj.r_op ?_
  | with_reducible refine Hj.r_test ?_
  | with_reducible refine Hj.r_B ?_
  | with_reducible refine Hj.r_cb ?_
  | with_reducible refine Hj.r_blV ?_
  | with_reducible refine Hj.r_and ?_
  | with_reducible refine Hj.r_or ?_
  | with_reducible refine Hj.r_not ?_
  | with_reducible refine Hj.r_call ?_
  | with_reducible refine Hj.r_tupK ?_
  | with_reducible refine Hj.r_lstK ?_
  | with_reducible refine Hj.r_eqS ?_
  | with_reducible refine Hj.r_eqI ?_
  | with_reducible refine Hj.r_neS ?_
  | with_reducible refine Hj.r_neI ?_
  | with_reducible refine Hj.r_isN ?_
  | with_reducible refine Hj.r_I0 ?_
  | with_reducible refine Hj.r_addI ?_
  | with_reducible refine Hj.r_intOf ?_
  | with_reducible refine Hj.r_mx ?_
  | with_reducible refine Hj.r_un ?_
  | with_reducible refine Hj.r_neg ?_
  | with_reducible refine Hj.r_drop ?_
  | with_reducible refine Hj.r_next ?_
  | with_reducible refine Hj.r_retN ?_
  | with_reducible refine Hj.r_sub ?_
  | with_reducible refine Hj.r_asg ?_
  | with_reducible refine Hj.r_bm ?_
  | with_reducible refine Hj.r_bm0 ?_
  | with_reducible refine Hj.r_meth ?_
  | with_reducible refine Hj.r_make ?_
  | with_reducible refine Hj.r_fldE ?_
  | with_reducible refine Hj.r_setF ?_
  | with_reducible refine Hj.r_sl ?_
  | with_reducible refine Hj.r_no ?_
  | with_reducible refine Hj.r_part ?_
  | with_reducible refine Hj.r_partI ?_
  | with_reducible refine Hj.r_m1 ?_
  | with_reducible refine Hj.r_strs ?_
  | with_reducible refine Hj.r_andV ?_
  | with_reducible refine Hj.r_orV ?_
  | with_reducible refine Hj.r_notV ?_
  | with_reducible refine Hj.r_for ?_
  | with_reducible refine Hj.r_rng ?_
  | with_reducible refine Hj.r_itL ?_
  | with_reducible refine Hj.r_itT ?_
  | with_reducible refine Hj.r_itS ?_
  | with_reducible refine Hj.r_itSE ?_))
local macro_rules | `(tactic| walk_at "cl") => `(tactic| ((try dsimp only [L2.cxOf, L2.Cx.nox]); simp only [L2.start, List.map, List.length, List.replicate, List.cons_append, List.nil_append, Nat.reduceAdd, Nat.reduceSub]))
local macro_rules | `(tactic| walk_at "len") => `(tactic| (intro vs H Q E h; first
  | (obtain ⟨_, ee, _⟩ := h; subst ee; rfl) | (obtain ⟨_, _, ee, _⟩ := h; subst ee; rfl) | (obtain ⟨_, _, _, ee, _⟩ := h; subst ee; rfl) | (obtain ⟨_, _, _, _, ee, _⟩ := h; subst ee; rfl) | (obtain ⟨_, _, _, _, _, ee, _⟩ := h; subst ee; rfl) | (obtain ⟨_, _, _, _, _, _, ee, _⟩ := h; subst ee; rfl)
  | (obtain ⟨_, _, _, _, _, _, _, ee, _⟩ := h; subst ee; rfl) | (obtain ⟨_, _, _, _, _, _, _, _, ee, _⟩ := h; subst ee; rfl) | (obtain ⟨_, _, _, _, _, _, _, _, _, ee, _⟩ := h; subst ee; rfl) | (obtain ⟨_, _, _, _, _, _, _, _, _, _, ee, _⟩ := h; subst ee; rfl)))
namespace Hj
open PySem PySem.Spec L2
/-! ### orders have a shape that can be compared -/
theorem strOk_clean {w : Str} (h : clean w) : PyData.strOk w = true := by
  unfold PyData.strOk
  rw [← Array.all_toList, List.all_eq_true]
  intro c hc
  have := (h.2 c hc).2
  simp only [decide_eq_true_eq]
  omega
theorem strOk_kw : ∀ w ∈ [kJoin, kClear, kIf, kWhile, kUntil, kEach, kEnd, kElse, kDo, kNot, kTog, kOpen], PyData.strOk w = true := fun w h => strOk_clean (clean_kw w h)
theorem lay_T {sc : List Str} (hs : ∀ z ∈ sc, isVar z = true) {t : Tst} (h : okTst sc t) : (dT t).canLay0 = true ∧ (dT t).depth ≤ 2 := by
  obtain ⟨h1, h2, h3⟩ := h
  have hw : PyData.strOk t.w = true := by
    rcases h1 with e | e <;> rw [e] <;> exact strOk_kw _ (by simp)
  have hx := strOk_clean (clean_term hs h2)
  have hy := strOk_clean (clean_term hs h3)
  have hn : PyData.strOk kNot = true := strOk_kw _ (by simp)
  unfold dT
  split <;> simp [PyData.canLay0, PyData.canLayAll0, hw, hx, hy, hn, PyData.depth, PyData.depthAll]
mutual
theorem lay_S : ∀ {sc : List Str} (s : Stm), (∀ z ∈ sc, isVar z = true) → okS sc s → (dS s).canLay0 = true ∧ (dS s).depth ≤ 2 * depS s + 3
  | sc, .join x y, hs, o => by
    simp only [okS] at o
    simp [dS, PyData.canLay0, PyData.canLayAll0, PyData.depth, PyData.depthAll, strOk_clean (clean_term hs o.1), strOk_clean (clean_term hs o.2), strOk_kw kJoin]
  | sc, .clear x, hs, o => by
    simp only [okS] at o
    simp [dS, PyData.canLay0, PyData.canLayAll0, PyData.depth, PyData.depthAll, strOk_clean (clean_term hs o), strOk_kw kClear]
  | sc, .ite t b u, hs, o => by
    simp only [okS] at o
    obtain ⟨a1, a2⟩ := lay_T hs o.1
    obtain ⟨b1, b2⟩ := lay_L b hs o.2.1
    obtain ⟨c1, c2⟩ := lay_L u hs o.2.2
    simp [dS, PyData.canLay0, PyData.canLayAll0, PyData.depth, PyData.depthAll, strOk_kw kIf, depS, a1, b1, c1]
    omega
  | sc, .wh t b, hs, o => by
    simp only [okS] at o
    obtain ⟨a1, a2⟩ := lay_T hs o.1
    obtain ⟨b1, b2⟩ := lay_L b hs o.2
    simp [dS, PyData.canLay0, PyData.canLayAll0, PyData.depth, PyData.depthAll, strOk_kw kWhile, depS, a1, b1]
    omega
  | sc, .each v b, hs, o => by
    simp only [okS] at o
    obtain ⟨b1, b2⟩ := lay_L b (sc := v :: sc) (fun z hz => by
      rcases List.mem_cons.mp hz with e | e
      · rw [e]; exact o.1
      · exact hs z e) o.2
    simp [dS, PyData.canLay0, PyData.canLayAll0, PyData.depth, PyData.depthAll, strOk_kw kEach, depS, strOk_clean (clean_var o.1), b1]
    omega
theorem lay_L : ∀ {sc : List Str} (o : List Stm), (∀ z ∈ sc, isVar z = true) → okO sc o → PyData.canLayAll0 (dL o) = true ∧ PyData.depthAll (dL o) ≤ 2 * depO o + 3
  | sc, [], hs, o => by simp [dL, PyData.canLayAll0, PyData.depthAll]
  | sc, s :: r, hs, o => by
    simp only [okO] at o
    obtain ⟨a1, a2⟩ := lay_S s hs o.1
    obtain ⟨b1, b2⟩ := lay_L r hs o.2
    simp [dL, PyData.canLayAll0, PyData.depthAll, depO, a1, b1]
    omega
end
theorem shaped_O {sc : List Str} {o : List Stm} (hs : ∀ z ∈ sc, isVar z = true) (ho : okO sc o) (hd : depO o ≤ 20) : SeqAt.shaped (dO o) = true := by
  obtain ⟨a1, a2⟩ := lay_L o hs ho
  unfold SeqAt.shaped dO
  simp [PyData.canLay0, PyData.depth, a1]
  omega
theorem shaped_nil : SeqAt.shaped (.tuple []) = true := by decide
theorem eqv_nil (o : List Stm) : PyData.eqv (dO o) (.tuple []) = o.isEmpty := by
  cases o <;> simp [dO, dL, PyData.eqv, PyData.eqvAll]
theorem cntO_take (o : List Stm) (i : Nat) : cntO (o.take i) ≤ cntO o := by
  have := cntO_app (o.take i) (o.drop i)
  rw [List.take_append_drop] at this
  omega
theorem okO_take {sc : List Str} {o : List Stm} (h : okO sc o) (i : Nat) : okO sc (o.take i) := by
  rw [← List.take_append_drop i o] at h
  exact ((okO_app _ _).mp h).1
theorem take_get {α : Type _} {o : List α} {i : Nat} {s : α} (h : o[i]? = some s) : o.take (i + 1) = o.take i ++ [s] := by
  rw [List.take_succ, h]
  rfl
theorem ok_get {sc : List Str} : ∀ {o : List Stm} {i : Nat} {s : Stm}, okO sc o → o[i]? = some s → okS sc s ∧ cntS s ≤ cntO o ∧ depS s ≤ depO o
  | [], _, _, _, h => by simp at h
  | a :: r, 0, s, o, h => by
    simp only [okO] at o
    have : a = s := by simpa using h
    subst this
    simp only [cntO, depO]
    exact ⟨o.1, by omega, by omega⟩
  | a :: r, i + 1, s, o, h => by
    simp only [okO] at o
    obtain ⟨h1, h2, h3⟩ := ok_get (i := i) o.2 (by simpa using h)
    simp only [cntO, depO]
    exact ⟨h1, by omega, by omega⟩
section
variable {P : Program} {w : World} {K : PySem.W.Frag} {mg : Str → Option Value} {base : Heap}
theorem tog_w {sc : List Str} {t : Tst} (h : okTst sc t) : ¬ t.w = kNot := by
  rcases h.1 with e | e <;> rw [e]
  · exact tog_not
  · exact open_not
/-! ### _law_order_words -/
abbrev psOW : List Str := ["_law_store_here", "_law_some_order", "_law_loose"]
def spOW (K : PySem.W.Frag) (n : Nat) : Sp := fun vs H Q _ => ∃ (st cs : Addr) (v : V) (o : List Stm) (sc : List Str) (l : Bool), vs = [.ref st, v, .bl l] ∧ StoreAt H st cs ∧ Dp K H v (dO o) ∧ okO sc o ∧ (∀ z ∈ sc, isVar z = true) ∧ cntO o ≤ 12 ∧ depO o ≤ n ∧ n ≤ 20 ∧
  ∀ (p : Addr) (ws : List Str) (H' : Hp), H p = none → H' p = some (.lst (ws.map V.str)) → WrO l o ws → Kp [st] H H' → StoreAt H' st cs → Q (.ref p) H'
def hd1 (t : Tst) (c : Bool) : List Str := if (t.neg && !c) = true then kUntil :: wT (opp t) else kWhile :: wT t
def hd2 (t : Tst) (c : Bool) : List Str := if (!t.neg && c) = true then kUntil :: wT (opp t) else hd1 t c
theorem hd2_len (t : Tst) (c : Bool) : (hd2 t c).length ≤ 5 := by
  have h1 := wT_len t
  have h2 := wT_len (opp t)
  unfold hd2 hd1
  split
  · simpa using h2
  · split
    · simpa using h2
    · simpa using h1
theorem hd2_wr {l : Bool} {t : Tst} {c : Bool} (h : c = true → l = true) {b : List Stm} {ws : List Str} (hw : WrO l b ws) : WrS l (.wh t b) (hd2 t c ++ (kDo :: (ws ++ [kEnd]))) := by
  cases hn : t.neg with
  | true =>
    cases c with
    | true =>
      have := h rfl
      subst this
      have e : hd2 t true = kWhile :: wT t := by simp [hd2, hd1, hn]
      rw [e]
      exact .whN hn hw
    | false =>
      have e : hd2 t false = kUntil :: wT (opp t) := by simp [hd2, hd1, hn]
      rw [e]
      exact .un hn hw
  | false =>
    cases c with
    | true =>
      have := h rfl
      subst this
      have e : hd2 t true = kUntil :: wT (opp t) := by simp [hd2, hn]
      rw [e]
      exact .unN hn hw
    | false =>
      have e : hd2 t false = kWhile :: wT t := by simp [hd2, hd1, hn]
      rw [e]
      exact .wh hn hw
theorem sc_law_order_words : FnScope ["_law_store_here", "_law_some_order", "_law_loose", "_law_words", "_law_one", "_law_head_here", "_law_turned"] ["_law_store_here", "_law_some_order", "_law_loose"] (defScope s_law_order_words) := ⟨rfl, rfl, rfl, by decide +kernel, rfl, by decide +kernel, by decide +kernel⟩
theorem ok_law_order_words {k n : Nat} (hk : 6 ≤ k) {spW : Sp} {f : Addr} {fd : FuncData} (F : Fun K "_law_order_words" "_law_order_words" s_law_order_words f fd) (T : Txt P K mg) (D_law_take : Dn P w K mg base CX0 k "_law_take" psTake spTake)
    (D_law_test_words : Dn P w K mg base CX0 k "_law_test_words" ["_law_some_test"] (spTW K)) (D_law_order_words : Dn P w K mg base CX0 k "_law_order_words" psOW spW) (hW : ∀ m, n = m + 1 → ∀ vs H Q E, spOW K m vs H Q E → spW vs H Q E) : FnOk P w K mg base CX0 (k + 1) f fd psOW (spOW K n) := by
  refine F.ok sc_law_order_words ?_ (fun cdv A outer s H vs Q E hr0 h => ?_)
  · walk_at "len"
  obtain ⟨st, cs, v0, o, sc, l, rfl, S, d0, ok0, hsc, hcn, hdp, hn20, q⟩ := h
  obtain ⟨po, xs, rfl, hx, dx⟩ := dp_tupI d0
  refine ⟨_, (pss_cons (ps_set (i := 3) sc_law_order_words.nd rfl (Or.inl rfl) (pe_lst pa_nil)) (pss_cons (ps_for PassesOwn.never rfl (pi_tup (pv 1)) (pg_name (i := 4) sc_law_order_words.nd rfl (Or.inl rfl)) (pss_one (ps_if (PW.pt (pw_or (pt_cmpR op_eq (pe_ix ix_seq (pv 4) pe_int (fun _ _ => rfl)) pe_str (nomark _)) (pw_or1 (pt_cmpR op_eq (pe_ix ix_seq (pv 4) pe_int (fun _ _ => rfl)) pe_str (nomark _))))) (pss_one (ps_set (i := 3) sc_law_order_words.nd rfl (Or.inl rfl) (pe_op opAdd (pv 3) (pe_callTy call_lstOf (by rfl) T.zlist (by decide +kernel) (pa_cons (pv 4) pa_nil))))) (pss_one (ps_if (pt_cmpR op_eq (pe_ix ix_seq (pv 4) pe_int (fun _ _ => rfl)) pe_str (nomark _)) (pss_one (ps_set (i := 3) sc_law_order_words.nd rfl (Or.inl rfl) (pe_op opAdd (pe_op opAdd (pe_op opAdd (pv 3) (pe_lst (pa_cons pe_str (pa_cons (pe_ix ix_seq (pv 4) pe_int (fun _ _ => rfl)) (pa_cons pe_str pa_nil))))) (pe_d D_law_order_words hr0 pass0 (pa_cons (pv 0) (pa_cons (pe_ix ix_seq (pv 4) pe_int (fun _ _ => rfl)) (pa_cons (pv 2) pa_nil))))) (pe_lst (pa_cons pe_str pa_nil))))) (pss_one (ps_if (pt_cmpR op_eq (pe_ix ix_seq (pv 4) pe_int (fun _ _ => rfl)) pe_str (nomark _)) (pss_cons (ps_set (i := 3) sc_law_order_words.nd rfl (Or.inl rfl) (pe_op opAdd (pe_op opAdd (pe_op opAdd (pe_op opAdd (pv 3) (pe_lst (pa_cons pe_str pa_nil))) (pe_d D_law_test_words hr0 pass0 (pa_cons (pe_ix ix_seq (pv 4) pe_int (fun _ _ => rfl)) pa_nil))) (pe_lst (pa_cons pe_str pa_nil))) (pe_d D_law_order_words hr0 pass0 (pa_cons (pv 0) (pa_cons (pe_ix ix_seq (pv 4) pe_int (fun _ _ => rfl)) (pa_cons (pv 2) pa_nil)))))) (Evl.pss_cut (ps_if (PW.pt (pw_or (pt_cmpR (op_neD hr0.units) (pe_ix ix_seq (pv 4) pe_int (fun _ _ => rfl)) (pe_tup pa_nil) (nomark _)) (pw_or1 (PW.pt (pw_and (pt_val (pv 2)) (pw_and1 (pt_cmpR op_eq (pe_d D_law_take hr0 pass0 (pa_cons (pv 0) (pa_cons pe_int pa_nil))) pe_int (nomark _)))))))) (pss_one (ps_set (i := 3) sc_law_order_words.nd rfl (Or.inl rfl) (pe_op opAdd (pe_op opAdd (pv 3) (pe_lst (pa_cons pe_str pa_nil))) (pe_d D_law_order_words hr0 pass0 (pa_cons (pv 0) (pa_cons (pe_ix ix_seq (pv 4) pe_int (fun _ _ => rfl)) (pa_cons (pv 2) pa_nil))))))) pss_nil) (pss_one (ps_set (i := 3) sc_law_order_words.nd rfl (Or.inl rfl) (pe_op opAdd (pv 3) (pe_lst (pa_cons pe_str pa_nil))))))) (pss_cons (ps_set (i := 5) sc_law_order_words.nd rfl (Or.inl rfl) (pe_op opAdd (pe_lst (pa_cons pe_str pa_nil)) (pe_d D_law_test_words hr0 pass0 (pa_cons (pe_ix ix_seq (pv 4) pe_int (fun _ _ => rfl)) pa_nil)))) (pss_cons (ps_set (i := 6) sc_law_order_words.nd rfl (Or.inl rfl) (pe_and (pv 2) (pe_one (pe_cmpR op_eq (pe_d D_law_take hr0 pass0 (pa_cons (pv 0) (pa_cons pe_int pa_nil))) pe_int (nomark _))))) (Evl.pss_cut (ps_if (PW.pt (pw_and (pt_cmpR op_eq (pe_ix ix_seq (pe_ix ix_seq (pv 4) pe_int (fun _ _ => rfl)) pe_int (fun _ _ => rfl)) pe_str (nomark _)) (pw_and1 (pt_not (pt_val (pv 6)))))) (pss_one (ps_set (i := 5) sc_law_order_words.nd rfl (Or.inl rfl) (pe_op opAdd (pe_lst (pa_cons pe_str pa_nil)) (pe_d D_law_test_words hr0 pass0 (pa_cons (pe_ix ix_seq (pe_ix ix_seq (pv 4) pe_int (fun _ _ => rfl)) pe_int (fun _ _ => rfl)) pa_nil))))) pss_nil) (Evl.pss_cut (ps_if (PW.pt (pw_and (pt_cmpR op_ne (pe_ix ix_seq (pe_ix ix_seq (pv 4) pe_int (fun _ _ => rfl)) pe_int (fun _ _ => rfl)) pe_str (nomark _)) (pw_and1 (pt_val (pv 6))))) (pss_one (ps_set (i := 5) sc_law_order_words.nd rfl (Or.inl rfl) (pe_op opAdd (pe_lst (pa_cons pe_str (pa_cons pe_str pa_nil))) (pe_d D_law_test_words hr0 pass0 (pa_cons (pe_ix ix_seq (pv 4) pe_int (fun _ _ => rfl)) pa_nil))))) pss_nil) (pss_one (ps_set (i := 3) sc_law_order_words.nd rfl (Or.inl rfl) (pe_op opAdd (pe_op opAdd (pe_op opAdd (pe_op opAdd (pv 3) (pv 5)) (pe_lst (pa_cons pe_str pa_nil))) (pe_d D_law_order_words hr0 pass0 (pa_cons (pv 0) (pa_cons (pe_ix ix_seq (pv 4) pe_int (fun _ _ => rfl)) (pa_cons (pv 2) pa_nil))))) (pe_lst (pa_cons pe_str pa_nil)))))))))))))))) (pss_one (ps_ret (pv 3))))), ?_⟩
  walk_at "cl"
  walk_at "rk"
  refine r_newL (by simp) fun p1 H1 n1 k1 e1 => ?_
  walk_at "rk"
  refine r_itTE (k1.sqT hx) ?_
  refine for_tup (K := K) (a := po) (xs := xs) (fun i σ' H' => ∃ (pw : Addr) (ws : List Str) (o4 o5 o6 : Option V), σ' = [some (.ref st), some (.ref po), some (.bl l), some (.ref pw), o4, o5, o6] ∧ H' pw = some (.lst (ws.map V.str)) ∧ H pw = none ∧ WrO l (o.take i) ws ∧ Kp [st] H H' ∧ StoreAt H' st cs)
    ⟨p1, [], _, _, _, rfl, e1, n1, .nil, k1.all, S.keep0 k1⟩ (fun i σ' H' _ ⟨_, _, _, _, _, _, _, _, _, k, _⟩ => k.sqT hx) ?_ ?_
  · rintro i x σ' H2 hi ⟨pw, ws, o4, o5, o6, rfl, e2, n2, w2, k2, S2⟩
    obtain ⟨d, hd, dx2⟩ := DpAll.get dx hi
    obtain ⟨t, ht, rfl⟩ := dL_get hd
    obtain ⟨okt, cnt, dpt⟩ := ok_get ok0 ht
    have hwl : ws.length ≤ 108 := by
      have a := (wrO_clean w2 hsc (okO_take ok0 i)).2
      have b := cntO_take o i
      omega
    have npw : pw ≠ st := (S.ne n2).1.symm
    have npw' : pw ∉ [st] := by simpa using npw
    have dx3 := dp_keep k2 _ _ (flat_S t) dx2
    have fin : ∀ {H3 : Hp} {p3 : Addr} {us : List Str}, Kp [st] H2 H3 → StoreAt H3 st cs → H3 p3 = none → WrS l t us → H p3 = none ∧ WrO l (o.take (i + 1)) (ws ++ us) := fun {H3 p3 us} k3 S3 n3 w3 => by
      refine ⟨S3.fr (k2.trans k3) n3, ?_⟩
      rw [take_get ht]
      have e : WrO l [t] (us ++ []) := .cons w3 .nil
      rw [List.append_nil] at e
      exact WrO.app w2 e
    have wsl := fun {us : List Str} (w3 : WrS l t us) => (wrS_clean w3 hsc okt).2
    walk_at "rk"
    cases t with
    | join x y =>
      simp only [dS] at dx3
      obtain ⟨px, ys, rfl, hy, dy⟩ := dp_tupI dx3
      obtain rfl := dps_str3 dy
      refine r_ixT hy (atI_nat (j := 0) rfl) ?_
      walk_at "rk"
      refine r_T (by decide +kernel) ?_
      walk_at "rk"
      refine r_lstOfTK hy fun p3 H3 n3 k3 e3 => ?_
      walk_at "rk"
      refine r_catK (us := ws) (vs := [kJoin, x, y]) (k3.get e2 (by simp)) e3 (by simp; omega) fun p4 H4 n4 k4 e4 => ?_
      obtain ⟨f1, f2⟩ := fin k3.all (S2.keep0 k3) n4 .join
      exact ⟨p4, _, _, _, _, rfl, e4, f1, f2, (k2.trans (k3.trans k4).all), S2.keep0 (k3.trans k4)⟩
    | clear x =>
      simp only [dS] at dx3
      obtain ⟨px, ys, rfl, hy, dy⟩ := dp_tupI dx3
      obtain ⟨y1, ys, rfl, d1, dy⟩ := dps_consI dy
      obtain ⟨y2, ys, rfl, d2, dy⟩ := dps_consI dy
      obtain rfl := dps_nilI dy
      obtain rfl := dp_strI d1
      obtain rfl := dp_strI d2
      refine r_ixT hy (atI_nat (j := 0) rfl) ?_
      walk_at "rk"
      refine r_F (by decide +kernel) ?_
      walk_at "rk"
      refine r_ixT hy (atI_nat (j := 0) rfl) ?_
      walk_at "rk"
      refine r_T (by decide +kernel) ?_
      walk_at "rk"
      refine r_lstOfTK hy fun p3 H3 n3 k3 e3 => ?_
      walk_at "rk"
      refine r_catK (us := ws) (vs := [kClear, x]) (k3.get e2 (by simp)) e3 (by simp; omega) fun p4 H4 n4 k4 e4 => ?_
      obtain ⟨f1, f2⟩ := fin k3.all (S2.keep0 k3) n4 .clear
      exact ⟨p4, _, _, _, _, rfl, e4, f1, f2, (k2.trans (k3.trans k4).all), S2.keep0 (k3.trans k4)⟩
    | each u b =>
      simp only [dS] at dx3
      obtain ⟨px, ys, rfl, hy, dy⟩ := dp_tupI dx3
      obtain ⟨y1, ys, rfl, d1, dy⟩ := dps_consI dy
      obtain ⟨y2, ys, rfl, d2, dy⟩ := dps_consI dy
      obtain ⟨y3, ys, rfl, d3, dy⟩ := dps_consI dy
      obtain rfl := dps_nilI dy
      obtain rfl := dp_strI d1
      obtain rfl := dp_strI d2
      simp only [okS] at okt
      simp only [cntS] at cnt
      simp only [depS] at dpt
      obtain ⟨m, rfl⟩ : ∃ m, n = m + 1 := ⟨n - 1, by omega⟩
      replace hW := hW m rfl
      refine r_ixT hy (atI_nat (j := 0) rfl) ?_
      walk_at "rk"
      refine r_F (by decide +kernel) ?_
      walk_at "rk"
      refine r_ixT hy (atI_nat (j := 0) rfl) ?_
      walk_at "rk"
      refine r_F (by decide +kernel) ?_
      walk_at "rk"
      refine r_ixT hy (atI_nat (j := 0) rfl) ?_
      walk_at "rk"
      refine r_T (by decide +kernel) ?_
      walk_at "rk"
      refine r_ixT hy (atI_nat (j := 1) rfl) ?_
      walk_at "rk"
      refine r_newL (by simp) fun p3 H3 n3 k3 e3 => ?_
      walk_at "rk"
      refine r_catK (us := ws) (vs := [kEach, u, kDo]) (k3.get e2 (by simp)) e3 (by simp; omega) fun p4 H4 n4 k4 e4 => ?_
      have K4 := k3.trans k4
      have S4 := S2.keep0 K4
      walk_at "rk"
      refine r_ixT (K4.sqT hy) (atI_nat (j := 2) rfl) ?_
      walk_at "rk"
      refine hW _ _ _ _ ⟨st, cs, y3, b, u :: sc, l, rfl, S4, dp_keep K4 _ _ (flat_O b) d3, okt.2, ?_, by omega, by omega, by omega, fun p5 us H5 n5 e5 w5 k5 S5 => ?_⟩
      · intro z hz
        rcases List.mem_cons.mp hz with e | e
        · rw [e]; exact okt.1
        · exact hsc z e
      have ul := wsl (.each w5)
      simp only [List.length_cons, List.length_append, List.length_nil, cntS] at ul
      have np4 : p4 ∉ [st] := by simpa using ((S2.keep0 k3).ne n4).1.symm
      walk_at "rk"
      refine r_catK (us := ws ++ [kEach, u, kDo]) (vs := us) (k5.get e4 np4) e5 (by simp; omega) fun p6 H6 n6 k6 e6 => ?_
      walk_at "rk"
      refine r_newL (by simp) fun p7 H7 n7 k7 e7 => ?_
      walk_at "rk"
      refine r_catK (us := ws ++ [kEach, u, kDo] ++ us) (vs := [kEnd]) (k7.get e6 (by simp)) e7 (by simp; omega) fun p8 H8 n8 k8 e8 => ?_
      have K58 := ((k5.trans k6.all).trans k7.all)
      obtain ⟨f1, f2⟩ := fin (K4.all.trans K58) ((S5.keep0 k6).keep0 k7) n8 (.each w5)
      refine ⟨p8, _, _, _, _, rfl, e8, f1, ?_, k2.trans ((K4.all.trans K58).trans k8.all), ((S5.keep0 k6).keep0 k7).keep0 k8⟩
      simpa using f2
    | ite t b u =>
      simp only [dS] at dx3
      obtain ⟨px, ys, rfl, hy, dy⟩ := dp_tupI dx3
      obtain ⟨y1, ys, rfl, d1, dy⟩ := dps_consI dy
      obtain ⟨y2, ys, rfl, d2, dy⟩ := dps_consI dy
      obtain ⟨y3, ys, rfl, d3, dy⟩ := dps_consI dy
      obtain ⟨y4, ys, rfl, d4, dy⟩ := dps_consI dy
      obtain rfl := dps_nilI dy
      obtain rfl := dp_strI d1
      simp only [okS] at okt
      simp only [cntS] at cnt
      simp only [depS] at dpt
      obtain ⟨m, rfl⟩ : ∃ m, n = m + 1 := ⟨n - 1, by omega⟩
      replace hW := hW m rfl
      have tl := wT_len t
      refine r_ixT hy (atI_nat (j := 0) rfl) ?_
      walk_at "rk"
      refine r_F (by decide +kernel) ?_
      walk_at "rk"
      refine r_ixT hy (atI_nat (j := 0) rfl) ?_
      walk_at "rk"
      refine r_F (by decide +kernel) ?_
      walk_at "rk"
      refine r_ixT hy (atI_nat (j := 0) rfl) ?_
      walk_at "rk"
      refine r_F (by decide +kernel) ?_
      walk_at "rk"
      refine r_ixT hy (atI_nat (j := 0) rfl) ?_
      walk_at "rk"
      refine r_T (by decide +kernel) ?_
      walk_at "rk"
      refine r_newL (by simp) fun p3 H3 n3 k3 e3 => ?_
      walk_at "rk"
      refine r_catK (us := ws) (vs := [kIf]) (k3.get e2 (by simp)) e3 (by simp; omega) fun p4 H4 n4 k4 e4 => ?_
      have K4 := k3.trans k4
      have S4 := S2.keep0 K4
      walk_at "rk"
      refine r_ixT (K4.sqT hy) (atI_nat (j := 1) rfl) ?_
      walk_at "rk"
      refine ⟨y2, t, rfl, dp_keep K4 _ _ (flat_T t) d2, tog_w okt.1, fun p5 H5 n5 k5 e5 => ?_⟩
      walk_at "rk"
      refine r_catK (us := ws ++ [kIf]) (vs := wT t) (k5.get e4 (by simp)) e5 (by simp; omega) fun p6 H6 n6 k6 e6 => ?_
      walk_at "rk"
      refine r_newL (by simp) fun p7 H7 n7 k7 e7 => ?_
      walk_at "rk"
      refine r_catK (us := ws ++ [kIf] ++ wT t) (vs := [kDo]) (k7.get e6 (by simp)) e7 (by simp; omega) fun p8 H8 n8 k8 e8 => ?_
      have K7 := ((K4.trans k5).trans k6).trans k7
      have K8 := K7.trans k8
      have np8 : p8 ∉ [st] := by simpa using ((S2.keep0 K7).ne n8).1.symm
      walk_at "rk"
      refine r_ixT (K8.sqT hy) (atI_nat (j := 2) rfl) ?_
      walk_at "rk"
      refine hW _ _ _ _ ⟨st, cs, y3, b, sc, l, rfl, S2.keep0 K8, dp_keep K8 _ _ (flat_O b) d3, okt.2.1, hsc, by omega, by omega, by omega, fun p9 us H9 n9 e9 w9 k9 S9 => ?_⟩
      have ul := (wrO_clean w9 hsc okt.2.1).2
      walk_at "rk"
      refine r_catK (us := ws ++ [kIf] ++ wT t ++ [kDo]) (vs := us) (k9.get e8 np8) e9 (by simp; omega) fun pa Ha na ka ea => ?_
      have Ka := (K8.all (S := [st])).trans (k9.trans ka.all)
      have Sa := S9.keep0 ka
      have npa : pa ∉ [st] := by simpa using (S9.ne na).1.symm
      walk_at "rk"
      refine r_cut (fun σ' H' => ∃ (pb : Addr) (vs : List Str), σ' = [some (.ref st), some (.ref po), some (.bl l), some (.ref pb), some (.ref px), o5, o6] ∧ H' pb = some (.lst ((ws ++ [kIf] ++ wT t ++ [kDo] ++ us ++ vs).map V.str)) ∧ WrE l u vs ∧ Kp [st] Ha H' ∧ StoreAt H' st cs ∧ pb ∉ [st]) ?_ ?_
      · walk_at "rk"
        refine r_ixT (Ka.sqT hy) (atI_nat (j := 3) rfl) ?_
        walk_at "rk"
        refine r_newT (by simp) fun pc Hc nc kc ec => ?_
        have Sc := Sa.keep0 kc
        refine ⟨dO u, .tuple [], dp_keep (Ka.trans kc.all) _ _ (flat_O u) d4, dp_tup ec .nil, shaped_O hsc okt.2.2 (by omega), shaped_nil, ?_⟩
        rw [eqv_nil]
        walk_at "rk"
        refine r_b (fun c1 => ?_) (fun c1 => ?_)
        · have hne : u ≠ [] := by
            intro h0
            rw [h0] at c1
            simp at c1
          have mk : ∀ {vs : List Str}, WrO l u vs → WrE l u (kElse :: vs) := fun h => .some hne h
          have kcS : Kp [st] Ha Hc := kc.all
          walk_at "rk"
          refine r_newL (by simp) fun pg Hg ng kg eg => ?_
          walk_at "rk"
          have kcg := kcS.trans kg.all
          refine r_catK (us := ws ++ [kIf] ++ wT t ++ [kDo] ++ us) (vs := [kElse]) (kcg.get ea npa) eg (by simp; omega) fun ph Hh nh kh eh => ?_
          have kah := kcg.trans kh.all
          have Sh := (Sc.keep0 kg).keep0 kh
          have nph : ph ∉ [st] := by simpa using ((Sc.keep0 kg).ne nh).1.symm
          walk_at "rk"
          refine r_ixT ((Ka.trans kah).sqT hy) (atI_nat (j := 3) rfl) ?_
          walk_at "rk"
          refine hW _ _ _ _ ⟨st, cs, y4, u, sc, l, rfl, Sh, dp_keep (Ka.trans kah) _ _ (flat_O u) d4, okt.2.2, hsc, by omega, by omega, by omega, fun pi vs Hi ni ei wi ki Si => ?_⟩
          have vl := (wrO_clean wi hsc okt.2.2).2
          walk_at "rk"
          refine r_catK (us := ws ++ [kIf] ++ wT t ++ [kDo] ++ us ++ [kElse]) (vs := vs) (ki.get eh nph) ei (by simp; omega) fun pj Hj nj kj ej => ?_
          exact ⟨pj, kElse :: vs, rfl, by rw [ej]; simp, mk wi, kah.trans (ki.trans kj.all), Si.keep0 kj, by simpa using (Si.ne nj).1.symm⟩
        · have hu : u = [] := by simpa using c1
          walk_at "rk"
          refine r_b (fun c2 => ?_) (fun c2 => ?_)
          · walk_at "rk"
            refine ⟨st, cs, 2, rfl, Sc, by omega, fun r Hd _ _ kd Sd => ?_⟩
            walk_at "rk"
            refine r_d (fun c3 => ?_) (fun c3 => ?_)
            · have mk : ∀ {vs : List Str}, WrO l u vs → WrE l u (kElse :: vs) := fun h => by
                subst hu c2
                rw [wO_nil h]
                exact .odd
              have kcS := (kc.all (S := [st])).trans kd
              replace Sc := Sd
              walk_at "rk"
              refine r_newL (by simp) fun pg Hg ng kg eg => ?_
              walk_at "rk"
              have kcg := kcS.trans kg.all
              refine r_catK (us := ws ++ [kIf] ++ wT t ++ [kDo] ++ us) (vs := [kElse]) (kcg.get ea npa) eg (by simp; omega) fun ph Hh nh kh eh => ?_
              have kah := kcg.trans kh.all
              have Sh := (Sc.keep0 kg).keep0 kh
              have nph : ph ∉ [st] := by simpa using ((Sc.keep0 kg).ne nh).1.symm
              walk_at "rk"
              refine r_ixT ((Ka.trans kah).sqT hy) (atI_nat (j := 3) rfl) ?_
              walk_at "rk"
              refine hW _ _ _ _ ⟨st, cs, y4, u, sc, l, rfl, Sh, dp_keep (Ka.trans kah) _ _ (flat_O u) d4, okt.2.2, hsc, by omega, by omega, by omega, fun pi vs Hi ni ei wi ki Si => ?_⟩
              have vl := (wrO_clean wi hsc okt.2.2).2
              walk_at "rk"
              refine r_catK (us := ws ++ [kIf] ++ wT t ++ [kDo] ++ us ++ [kElse]) (vs := vs) (ki.get eh nph) ei (by simp; omega) fun pj Hj nj kj ej => ?_
              exact ⟨pj, kElse :: vs, rfl, by rw [ej]; simp, mk wi, kah.trans (ki.trans kj.all), Si.keep0 kj, by simpa using (Si.ne nj).1.symm⟩
            · walk_at "rk"
              exact ⟨pa, [], rfl, by rw [List.append_nil]; exact (kd.get (kc.get ea (by simp)) npa), by rw [hu]; exact .none, kc.all.trans kd, Sd, npa⟩
          · walk_at "rk"
            exact ⟨pa, [], rfl, by rw [List.append_nil]; exact kc.get ea (by simp), by rw [hu]; exact .none, kc.all, Sc, npa⟩
      · rintro σ' Hb ⟨pb, vs, rfl, eb, wb, kb, Sb, npb⟩
        have vl := (wrE_clean wb hsc okt.2.2).2
        walk_at "rk"
        refine r_newL (by simp) fun pd Hd nd kd ed => ?_
        walk_at "rk"
        refine r_catK (us := ws ++ [kIf] ++ wT t ++ [kDo] ++ us ++ vs) (vs := [kEnd]) (kd.get eb (by simp)) ed (by simp; omega) fun pe He ne ke ee => ?_
        have Kd := (Ka.trans kb).trans kd.all
        obtain ⟨f1, f2⟩ := fin Kd (Sb.keep0 kd) ne (.ite (t := t) w9 wb)
        refine ⟨pe, _, _, _, _, rfl, ee, f1, ?_, k2.trans (Kd.trans ke.all), (Sb.keep0 kd).keep0 ke⟩
        simpa using f2
    | wh t b =>
      simp only [dS] at dx3
      obtain ⟨px, ys, rfl, hy, dy⟩ := dp_tupI dx3
      obtain ⟨y1, ys, rfl, d1, dy⟩ := dps_consI dy
      obtain ⟨y2, ys, rfl, d2, dy⟩ := dps_consI dy
      obtain ⟨y3, ys, rfl, d3, dy⟩ := dps_consI dy
      obtain rfl := dps_nilI dy
      obtain rfl := dp_strI d1
      simp only [okS] at okt
      simp only [cntS] at cnt
      simp only [depS] at dpt
      obtain ⟨m, rfl⟩ : ∃ m, n = m + 1 := ⟨n - 1, by omega⟩
      replace hW := hW m rfl
      have tl := wT_len t
      refine r_ixT hy (atI_nat (j := 0) rfl) ?_
      walk_at "rk"
      refine r_F (by decide +kernel) ?_
      walk_at "rk"
      refine r_ixT hy (atI_nat (j := 0) rfl) ?_
      walk_at "rk"
      refine r_F (by decide +kernel) ?_
      walk_at "rk"
      refine r_ixT hy (atI_nat (j := 0) rfl) ?_
      walk_at "rk"
      refine r_F (by decide +kernel) ?_
      walk_at "rk"
      refine r_ixT hy (atI_nat (j := 0) rfl) ?_
      walk_at "rk"
      refine r_F (by decide +kernel) ?_
      walk_at "rk"
      refine r_newL (by simp) fun p3 H3 n3 k3 e3 => ?_
      walk_at "rk"
      refine r_ixT (k3.sqT hy) (atI_nat (j := 1) rfl) ?_
      walk_at "rk"
      refine ⟨y2, t, rfl, dp_keep k3 _ _ (flat_T t) d2, tog_w okt.1, fun p4 H4 n4 k4 e4 => ?_⟩
      walk_at "rk"
      refine r_catK (us := [kWhile]) (vs := wT t) (k4.get e3 (by simp)) e4 (by simp; omega) fun p5 H5 n5 k5 e5 => ?_
      have K4 := k3.trans k4
      have S5 := S2.keep0 (K4.trans k5)
      have np5 : p5 ∉ [st] := by simpa using ((S2.keep0 K4).ne n5).1.symm
      have K5 := (K4.trans k5).all (S := [st])
      walk_at "rk"
      refine r_b (fun c1 => ?_) (fun c1 => ?_)
      · walk_at "rk"
        refine ⟨st, cs, 2, rfl, S5, by omega, fun r H6 _ _ k6 S6 => ?_⟩
        walk_at "rk"
        have hc : decide (r = 0) = true → l = true := fun _ => c1
        generalize decide (r = 0) = c at hc
        walk_at "rk"
        have K6 := K5.trans k6
        have e6 := k6.get e5 np5
        refine r_cut (fun σ' H' => ∃ (ph : Addr), σ' = [some (.ref st), some (.ref po), some (.bl l), some (.ref pw), some (.ref px), some (.ref ph), some (.bl c)] ∧ H' ph = some (.lst ((hd1 t c).map V.str)) ∧ Kp [] H6 H') ?_ ?_
        · obtain ⟨pt, rfl, ⟨hn, h1⟩ | ⟨hn, pt2, h1, h2⟩⟩ := dT_view (dp_keep K6 _ _ (flat_T t) d2)
          · walk_at "rk"
            refine r_ixT (K6.sqT hy) (atI_nat (j := 1) rfl) ?_
            walk_at "rk"
            refine r_ixT h1 (atI_nat (j := 0) rfl) ?_
            walk_at "rk"
            refine r_F (decide_eq_false (tog_w okt.1)) ?_
            walk_at "rk"
            exact ⟨p5, rfl, by simpa [hd1, hn] using e6, .refl⟩
          · walk_at "rk"
            refine r_ixT (K6.sqT hy) (atI_nat (j := 1) rfl) ?_
            walk_at "rk"
            refine r_ixT h1 (atI_nat (j := 0) rfl) ?_
            walk_at "rk"
            refine r_T (by decide +kernel) ?_
            walk_at "rk"
            cases c with
            | true =>
              refine r_F rfl ?_
              walk_at "rk"
              exact ⟨p5, rfl, by simpa [hd1, hn] using e6, .refl⟩
            | false =>
              refine r_T rfl ?_
              walk_at "rk"
              refine r_newL (by simp) fun p7 H7 n7 k7 e7 => ?_
              walk_at "rk"
              refine r_ixT (k7.sqT (K6.sqT hy)) (atI_nat (j := 1) rfl) ?_
              walk_at "rk"
              refine r_ixT (k7.sqT h1) (atI_nat (j := 1) rfl) ?_
              walk_at "rk"
              refine ⟨.ref pt2, opp t, rfl, dT_plain (by simp [opp, hn]) (k7.sqT h2), tog_w okt.1, fun p8 H8 n8 k8 e8 => ?_⟩
              walk_at "rk"
              refine r_catK (us := [kUntil]) (vs := wT (opp t)) (k8.get e7 (by simp)) e8 (by have := wT_len (opp t); simp; omega) fun p9 H9 n9 k9 e9 => ?_
              exact ⟨p9, rfl, by rw [e9]; simp [hd1, hn], (k7.trans k8).trans k9⟩
        · rintro σ' H7 ⟨ph, rfl, e7, k7⟩
          have K7 := K6.trans k7.all
          have l1 : (hd1 t c).length ≤ 5 := by
            have h1 := wT_len t
            have h2 := wT_len (opp t)
            unfold hd1
            split <;> simp <;> omega
          walk_at "rk"
          refine r_cut (fun σ' H' => ∃ (ph : Addr), σ' = [some (.ref st), some (.ref po), some (.bl l), some (.ref pw), some (.ref px), some (.ref ph), some (.bl c)] ∧ H' ph = some (.lst ((hd2 t c).map V.str)) ∧ Kp [] H7 H') ?_ ?_
          · obtain ⟨pt, rfl, ⟨hn, h1⟩ | ⟨hn, pt2, h1, h2⟩⟩ := dT_view (dp_keep K7 _ _ (flat_T t) d2)
            · walk_at "rk"
              refine r_ixT (K7.sqT hy) (atI_nat (j := 1) rfl) ?_
              walk_at "rk"
              refine r_ixT h1 (atI_nat (j := 0) rfl) ?_
              walk_at "rk"
              refine r_T (by show (!decide (t.w = kNot)) = true; rw [decide_eq_false (tog_w okt.1)]; rfl) ?_
              walk_at "rk"
              cases c with
              | true =>
                refine r_T rfl ?_
                walk_at "rk"
                refine r_newL (by simp) fun p8 H8 n8 k8 e8 => ?_
                walk_at "rk"
                refine r_ixT (k8.sqT (K7.sqT hy)) (atI_nat (j := 1) rfl) ?_
                walk_at "rk"
                refine ⟨.ref pt, t, rfl, dT_plain hn (k8.sqT h1), tog_w okt.1, fun p9 H9 n9 k9 e9 => ?_⟩
                walk_at "rk"
                refine r_catK (us := [kUntil, kNot]) (vs := wT t) (k9.get e8 (by simp)) e9 (by simp; omega) fun pa Ha na ka ea => ?_
                exact ⟨pa, rfl, by rw [ea]; simp [hd2, hn, wT, opp], (k8.trans k9).trans ka⟩
              | false =>
                refine r_F rfl ?_
                walk_at "rk"
                exact ⟨ph, rfl, by simpa [hd2, hn] using e7, .refl⟩
            · walk_at "rk"
              refine r_ixT (K7.sqT hy) (atI_nat (j := 1) rfl) ?_
              walk_at "rk"
              refine r_ixT h1 (atI_nat (j := 0) rfl) ?_
              walk_at "rk"
              refine r_F (by decide +kernel) ?_
              walk_at "rk"
              exact ⟨ph, rfl, by simpa [hd2, hn] using e7, .refl⟩
          · rintro σ' H8 ⟨pi, rfl, e8, k8⟩
            have K8 := K7.trans k8.all
            have l2 := hd2_len t c
            have S8 := (S6.keep0 k7).keep0 k8
            walk_at "rk"
            refine r_catK (us := ws) (vs := hd2 t c) (K8.get e2 npw') e8 (by omega) fun p9 H9 n9 k9 e9 => ?_
            walk_at "rk"
            refine r_newL (by simp) fun pa Ha na ka ea => ?_
            walk_at "rk"
            refine r_catK (us := ws ++ hd2 t c) (vs := [kDo]) (ka.get e9 (by simp)) ea (by simp; omega) fun pb Hb nb kb eb => ?_
            have Ka := K8.trans (k9.trans ka).all
            have Kb := Ka.trans kb.all
            have npb : pb ∉ [st] := by simpa using (((S8.keep0 k9).keep0 ka).ne nb).1.symm
            walk_at "rk"
            refine r_ixT (Kb.sqT hy) (atI_nat (j := 2) rfl) ?_
            walk_at "rk"
            refine hW _ _ _ _ ⟨st, cs, y3, b, sc, l, rfl, ((S8.keep0 k9).keep0 ka).keep0 kb, dp_keep Kb _ _ (flat_O b) d3, okt.2, hsc, by omega, by omega, by omega, fun pc us Hc nc ec wc kc Sc => ?_⟩
            have ul := (wrO_clean wc hsc okt.2).2
            walk_at "rk"
            refine r_catK (us := ws ++ hd2 t c ++ [kDo]) (vs := us) (kc.get eb npb) ec (by simp; omega) fun pd Hd nd kd ed => ?_
            walk_at "rk"
            refine r_newL (by simp) fun pe He ne ke ee => ?_
            walk_at "rk"
            refine r_catK (us := ws ++ hd2 t c ++ [kDo] ++ us) (vs := [kEnd]) (ke.get ed (by simp)) ee (by simp; omega) fun pf Hf nf kf ef => ?_
            have Ke := Kb.trans (kc.trans (kd.trans ke).all)
            obtain ⟨f1, f2⟩ := fin Ke ((Sc.keep0 kd).keep0 ke) nf (hd2_wr hc wc)
            refine ⟨pf, _, _, _, _, rfl, ef, f1, ?_, k2.trans (Ke.trans kf.all), ((Sc.keep0 kd).keep0 ke).keep0 kf⟩
            simpa using f2
      · walk_at "rk"
        have hc : false = true → l = true := fun z => absurd z (by simp)
        obtain ⟨H6, h6⟩ : ∃ H6, H6 = H5 := ⟨_, rfl⟩
        have k6 : Kp [st] H5 H6 := by rw [h6]; exact .refl
        have S6 : StoreAt H6 st cs := by rw [h6]; exact S5
        rw [← h6]
        generalize false = c at hc
        walk_at "rk"
        have K6 := K5.trans k6
        have e6 := k6.get e5 np5
        refine r_cut (fun σ' H' => ∃ (ph : Addr), σ' = [some (.ref st), some (.ref po), some (.bl l), some (.ref pw), some (.ref px), some (.ref ph), some (.bl c)] ∧ H' ph = some (.lst ((hd1 t c).map V.str)) ∧ Kp [] H6 H') ?_ ?_
        · obtain ⟨pt, rfl, ⟨hn, h1⟩ | ⟨hn, pt2, h1, h2⟩⟩ := dT_view (dp_keep K6 _ _ (flat_T t) d2)
          · walk_at "rk"
            refine r_ixT (K6.sqT hy) (atI_nat (j := 1) rfl) ?_
            walk_at "rk"
            refine r_ixT h1 (atI_nat (j := 0) rfl) ?_
            walk_at "rk"
            refine r_F (decide_eq_false (tog_w okt.1)) ?_
            walk_at "rk"
            exact ⟨p5, rfl, by simpa [hd1, hn] using e6, .refl⟩
          · walk_at "rk"
            refine r_ixT (K6.sqT hy) (atI_nat (j := 1) rfl) ?_
            walk_at "rk"
            refine r_ixT h1 (atI_nat (j := 0) rfl) ?_
            walk_at "rk"
            refine r_T (by decide +kernel) ?_
            walk_at "rk"
            cases c with
            | true =>
              refine r_F rfl ?_
              walk_at "rk"
              exact ⟨p5, rfl, by simpa [hd1, hn] using e6, .refl⟩
            | false =>
              refine r_T rfl ?_
              walk_at "rk"
              refine r_newL (by simp) fun p7 H7 n7 k7 e7 => ?_
              walk_at "rk"
              refine r_ixT (k7.sqT (K6.sqT hy)) (atI_nat (j := 1) rfl) ?_
              walk_at "rk"
              refine r_ixT (k7.sqT h1) (atI_nat (j := 1) rfl) ?_
              walk_at "rk"
              refine ⟨.ref pt2, opp t, rfl, dT_plain (by simp [opp, hn]) (k7.sqT h2), tog_w okt.1, fun p8 H8 n8 k8 e8 => ?_⟩
              walk_at "rk"
              refine r_catK (us := [kUntil]) (vs := wT (opp t)) (k8.get e7 (by simp)) e8 (by have := wT_len (opp t); simp; omega) fun p9 H9 n9 k9 e9 => ?_
              exact ⟨p9, rfl, by rw [e9]; simp [hd1, hn], (k7.trans k8).trans k9⟩
        · rintro σ' H7 ⟨ph, rfl, e7, k7⟩
          have K7 := K6.trans k7.all
          have l1 : (hd1 t c).length ≤ 5 := by
            have h1 := wT_len t
            have h2 := wT_len (opp t)
            unfold hd1
            split <;> simp <;> omega
          walk_at "rk"
          refine r_cut (fun σ' H' => ∃ (ph : Addr), σ' = [some (.ref st), some (.ref po), some (.bl l), some (.ref pw), some (.ref px), some (.ref ph), some (.bl c)] ∧ H' ph = some (.lst ((hd2 t c).map V.str)) ∧ Kp [] H7 H') ?_ ?_
          · obtain ⟨pt, rfl, ⟨hn, h1⟩ | ⟨hn, pt2, h1, h2⟩⟩ := dT_view (dp_keep K7 _ _ (flat_T t) d2)
            · walk_at "rk"
              refine r_ixT (K7.sqT hy) (atI_nat (j := 1) rfl) ?_
              walk_at "rk"
              refine r_ixT h1 (atI_nat (j := 0) rfl) ?_
              walk_at "rk"
              refine r_T (by show (!decide (t.w = kNot)) = true; rw [decide_eq_false (tog_w okt.1)]; rfl) ?_
              walk_at "rk"
              cases c with
              | true =>
                refine r_T rfl ?_
                walk_at "rk"
                refine r_newL (by simp) fun p8 H8 n8 k8 e8 => ?_
                walk_at "rk"
                refine r_ixT (k8.sqT (K7.sqT hy)) (atI_nat (j := 1) rfl) ?_
                walk_at "rk"
                refine ⟨.ref pt, t, rfl, dT_plain hn (k8.sqT h1), tog_w okt.1, fun p9 H9 n9 k9 e9 => ?_⟩
                walk_at "rk"
                refine r_catK (us := [kUntil, kNot]) (vs := wT t) (k9.get e8 (by simp)) e9 (by simp; omega) fun pa Ha na ka ea => ?_
                exact ⟨pa, rfl, by rw [ea]; simp [hd2, hn, wT, opp], (k8.trans k9).trans ka⟩
              | false =>
                refine r_F rfl ?_
                walk_at "rk"
                exact ⟨ph, rfl, by simpa [hd2, hn] using e7, .refl⟩
            · walk_at "rk"
              refine r_ixT (K7.sqT hy) (atI_nat (j := 1) rfl) ?_
              walk_at "rk"
              refine r_ixT h1 (atI_nat (j := 0) rfl) ?_
              walk_at "rk"
              refine r_F (by decide +kernel) ?_
              walk_at "rk"
              exact ⟨ph, rfl, by simpa [hd2, hn] using e7, .refl⟩
          · rintro σ' H8 ⟨pi, rfl, e8, k8⟩
            have K8 := K7.trans k8.all
            have l2 := hd2_len t c
            have S8 := (S6.keep0 k7).keep0 k8
            walk_at "rk"
            refine r_catK (us := ws) (vs := hd2 t c) (K8.get e2 npw') e8 (by omega) fun p9 H9 n9 k9 e9 => ?_
            walk_at "rk"
            refine r_newL (by simp) fun pa Ha na ka ea => ?_
            walk_at "rk"
            refine r_catK (us := ws ++ hd2 t c) (vs := [kDo]) (ka.get e9 (by simp)) ea (by simp; omega) fun pb Hb nb kb eb => ?_
            have Ka := K8.trans (k9.trans ka).all
            have Kb := Ka.trans kb.all
            have npb : pb ∉ [st] := by simpa using (((S8.keep0 k9).keep0 ka).ne nb).1.symm
            walk_at "rk"
            refine r_ixT (Kb.sqT hy) (atI_nat (j := 2) rfl) ?_
            walk_at "rk"
            refine hW _ _ _ _ ⟨st, cs, y3, b, sc, l, rfl, ((S8.keep0 k9).keep0 ka).keep0 kb, dp_keep Kb _ _ (flat_O b) d3, okt.2, hsc, by omega, by omega, by omega, fun pc us Hc nc ec wc kc Sc => ?_⟩
            have ul := (wrO_clean wc hsc okt.2).2
            walk_at "rk"
            refine r_catK (us := ws ++ hd2 t c ++ [kDo]) (vs := us) (kc.get eb npb) ec (by simp; omega) fun pd Hd nd kd ed => ?_
            walk_at "rk"
            refine r_newL (by simp) fun pe He ne ke ee => ?_
            walk_at "rk"
            refine r_catK (us := ws ++ hd2 t c ++ [kDo] ++ us) (vs := [kEnd]) (ke.get ed (by simp)) ee (by simp; omega) fun pf Hf nf kf ef => ?_
            have Ke := Kb.trans (kc.trans (kd.trans ke).all)
            obtain ⟨f1, f2⟩ := fin Ke ((Sc.keep0 kd).keep0 ke) nf (hd2_wr hc wc)
            refine ⟨pf, _, _, _, _, rfl, ef, f1, ?_, k2.trans (Ke.trans kf.all), ((Sc.keep0 kd).keep0 ke).keep0 kf⟩
            simpa using f2
  · rintro σ' H2 ⟨pw, ws, o4, o5, o6, rfl, e2, n2, w2, k2, S2⟩
    walk_at "rk"
    have e : o.take xs.length = o := List.take_of_length_le (by rw [DpAll.len dx, dL_len]; exact Nat.le_refl _)
    rw [e] at w2
    exact q pw ws H2 n2 e2 w2 k2 S2
end
end Hj
end
section
set_option Elab.async false
set_option linter.all false
set_option maxRecDepth 100000
set_option maxHeartbeats 2000000
namespace Hj
open PySem PySem.Spec L2
/-! ### texts cut into words and glued again -/
def sumL (ys : List Str) : Nat := (ys.map (·.length)).sum
theorem sumL_le {B : Nat} : ∀ {ys : List Str}, (∀ y ∈ ys, y.length ≤ B) → sumL ys ≤ ys.length * B
  | [], _ => Nat.zero_le _
  | y :: r, h => by
    have h1 := h y List.mem_cons_self
    have h2 := sumL_le (ys := r) fun z hz => h z (List.mem_cons_of_mem _ hz)
    simp only [sumL, List.map_cons, List.sum_cons, List.length_cons, Nat.add_mul, Nat.one_mul] at h2 ⊢
    omega
theorem sumL_app (a b : List Str) : sumL (a ++ b) = sumL a + sumL b := by simp [sumL]
theorem join_len1 (a : Str) : ∀ ys : List Str, (Str.join a ys).length ≤ sumL ys + ys.length * a.length
  | [] => Nat.zero_le _
  | [x] => by
    show x.length ≤ _
    simp [sumL]
  | x :: y :: r => by
    have e : (Str.join a (x :: y :: r)).length = x.length + a.length + (Str.join a (y :: r)).length := by
      show (x ++ a ++ Str.join a (y :: r)).length = _
      rw [TL.len_tl, TL.tl_append, TL.tl_append, List.length_append, List.length_append, ← TL.len_tl, ← TL.len_tl, ← TL.len_tl]
    have h := join_len1 a (y :: r)
    rw [e]
    simp only [sumL, List.map_cons, List.sum_cons, List.length_cons, Nat.add_mul, Nat.one_mul] at h ⊢
    omega
theorem join_len (a : Str) (ys : List Str) : (Txt.join a ys).length ≤ sumL ys + ys.length * a.length := by
  rw [TL.join_eq]
  exact join_len1 a ys
theorem spl_len (S : List Nat) : ∀ (l acc : List Nat) (k : Nat), ((TL.spl S k acc l).map List.length).sum ≤ acc.length + l.length ∧ (TL.spl S k acc l).length ≤ l.length + 1
  | [], acc, k => by
    rw [TL.spl_nil]
    simp
  | c :: r, acc, 0 => by
    show ((if TL.pre S (c :: r) = true then acc :: TL.spl S (S.length - 1) [] r else TL.spl S 0 (acc ++ [c]) r).map List.length).sum ≤ _ ∧ _
    have e : TL.spl S 0 acc (c :: r) = if TL.pre S (c :: r) = true then acc :: TL.spl S (S.length - 1) [] r else TL.spl S 0 (acc ++ [c]) r := rfl
    rw [e]
    split
    · obtain ⟨h1, h2⟩ := spl_len S r [] (S.length - 1)
      simp at h1 h2 ⊢
      omega
    · obtain ⟨h1, h2⟩ := spl_len S r (acc ++ [c]) 0
      simp at h1 h2 ⊢
      omega
  | c :: r, acc, k + 1 => by
    have e : TL.spl S (k + 1) acc (c :: r) = TL.spl S k acc r := rfl
    rw [e]
    obtain ⟨h1, h2⟩ := spl_len S r acc k
    simp only [List.length_cons]
    omega
def kSp : Str := " "
theorem tl_sp : TL.tl kSp = [32] := by decide +kernel
theorem len_sp : kSp.length = 1 := by decide +kernel
theorem sp_ok : kSp.cps.all (· < 256) = true := by decide +kernel
theorem sumL_tl (ys : List Str) : sumL ys = ((ys.map TL.tl).map List.length).sum := by
  unfold sumL
  rw [List.map_map]
  refine congrArg List.sum (List.map_congr_left fun y _ => ?_)
  exact TL.len_tl y
theorem split_len (z : Str) : sumL (Txt.split z kSp) ≤ z.length ∧ (Txt.split z kSp).length ≤ z.length + 1 := by
  have e := TL.split_spl z kSp (by rw [tl_sp]; simp) (TL.kind_ok sp_ok)
  obtain ⟨h1, h2⟩ := spl_len (TL.tl kSp) (TL.tl z) [] 0
  rw [← e] at h1 h2
  rw [← sumL_tl] at h1
  rw [List.length_map] at h2
  rw [TL.len_tl z]
  exact ⟨by simpa using h1, h2⟩
/-- the words of a text -/
def wordsOf (z : Str) : List Str := if z = "" then [] else Txt.split z kSp
theorem split_clean {ws : List Str} (h : ∀ w ∈ ws, clean w) (hne : ws ≠ []) : Txt.split (Txt.join kSp ws) kSp = ws :=
  TL.split_join tl_sp sp_ok hne fun p hp hm => ((h p hp).2 32 hm).1 rfl
theorem join_mem1 (a : Str) : ∀ (ys : List Str) (y : Str), y ∈ ys → y.length ≤ (Str.join a ys).length
  | [], _, h => absurd h (by simp)
  | [x], y, h => by
    rw [List.mem_singleton.mp h]
    exact Nat.le_refl _
  | x :: z :: r, y, h => by
    have e : (Str.join a (x :: z :: r)).length = x.length + a.length + (Str.join a (z :: r)).length := by
      show (x ++ a ++ Str.join a (z :: r)).length = _
      rw [TL.len_tl, TL.tl_append, TL.tl_append, List.length_append, List.length_append, ← TL.len_tl, ← TL.len_tl, ← TL.len_tl]
    rcases List.mem_cons.mp h with rfl | h
    · omega
    · have := join_mem1 a (z :: r) y h
      omega
theorem wordsOf_clean {ws : List Str} (h : ∀ w ∈ ws, clean w) : wordsOf (Txt.join kSp ws) = ws := by
  unfold wordsOf
  cases ws with
  | nil => rw [if_pos (by decide +kernel)]
  | cons x r =>
    have hl : x.length ≤ (Txt.join kSp (x :: r)).length := by
      rw [TL.join_eq]
      exact join_mem1 kSp (x :: r) x List.mem_cons_self
    have hx := (h x List.mem_cons_self).1.1
    rw [if_neg (fun e => by
      rw [e] at hl
      have : ("" : Str).length = 0 := by decide +kernel
      omega)]
    exact split_clean h (by simp)
theorem wordsOf_len (z : Str) : sumL (wordsOf z) ≤ z.length ∧ (wordsOf z).length ≤ z.length + 1 := by
  unfold wordsOf
  split
  · simp [sumL]
  · exact split_len z
/-! ### parts of lists of texts -/
theorem cut_strs (us : List Str) (lo hi : Option Int) : ∃ ys : List Str, cutV (us.map V.str) lo hi = ys.map V.str ∧ (∀ y ∈ ys, y ∈ us) ∧ ys.length ≤ us.length := by
  refine ⟨(us.drop (HT.sIx us.length 0 lo)).take (HT.sIx us.length us.length hi - HT.sIx us.length 0 lo), ?_, fun y hy => List.mem_of_mem_drop (List.mem_of_mem_take hy), ?_⟩
  · unfold cutV
    rw [List.length_map, List.map_take, List.map_drop]
  · rw [List.length_take, List.length_drop]
    omega
theorem mem_strs {us : List Str} {v : V} (h : v ∈ us.map V.str) : ∃ z, z ∈ us ∧ v = .str z := by
  obtain ⟨z, h1, h2⟩ := List.mem_map.mp h
  exact ⟨z, h1, h2.symm⟩
section
variable {K : PySem.W.Frag} {H : Hp} {Q : VK} {a b : Addr} {us vs : List Str}
theorem r_joinL (hx : SqL K H a (us.map V.str)) (hz : sumL us + us.length ≤ 1000000) (h : Q (.str (Txt.join kSp us)) H) :
    ∃ c p, ∃ ys : List Str, V.str kSp = .str c ∧ [V.ref a] = [.ref p] ∧ (SqL K H p (ys.map V.str) ∨ SqT K H p (ys.map V.str)) ∧ (ys.map (·.length)).sum + ys.length * c.length ≤ 16777216 ∧ Q (.str (Txt.join c ys)) H :=
  ⟨kSp, a, us, rfl, rfl, .inl hx, by rw [len_sp]; show sumL us + _ ≤ _; omega, h⟩
theorem r_splitK {z : Str} (hz : z.length ≤ 900000) (h : ∀ p H2, H p = none → Kp [] H H2 → H2 p = some (.lst ((Txt.split z kSp).map V.str)) → Q (.ref p) H2) :
    ∃ c d, V.str z = .str c ∧ [V.str kSp] = [.str d] ∧ (d.length == 0) = false ∧ c.length + 2 ≤ sizeLine ∧ rNewStrs (Txt.split c d) H Q :=
  ⟨z, kSp, rfl, rfl, by rw [len_sp]; rfl, sz (by omega), fun p hp => h p _ hp (Kp.new hp) upd_same⟩
theorem r_slSK {lo hi : Option Int} (hx : H a = some (.lst (us.map V.str))) (h : ∀ (p : Addr) (H2 : Hp) (ys : List Str), H p = none → Kp [] H H2 → H2 p = some (.lst (ys.map V.str)) → (∀ y ∈ ys, y ∈ us) → ys.length ≤ us.length → Q (.ref p) H2) : rSl3 K (.ref a) lo hi H Q := by
  obtain ⟨ys, e, h1, h2⟩ := cut_strs us lo hi
  refine r_slLK (SqL.of hx) fun p H2 n k eq => ?_
  rw [e] at eq
  exact h p H2 ys n k eq h1 h2
end
end Hj
end
section
set_option Elab.async false
set_option linter.all false
set_option maxRecDepth 100000
set_option maxHeartbeats 8000000
local macro_rules | `(tactic| walk_at "rd") => `(tactic| repeat (first
  | with_reducible refine Hj.r_seq ?_
  | with_reducible refine Hj.r_nx ?_
  | with_reducible refine Hj.r_rt ?_
  | with_reducible refine L2.iteT ?_
  | with_reducible refine L2.iteF ?_
  | with_reducible refine Hj.r_set ?_
  | with_reducible refine Hj.r_gname ?_
  | with_reducible refine Hj.r_if ?_
  | with_reducible refine Hj.r_ret ?_
  | ((with_reducible show L2.tVar _ _ _ _); refine ⟨_, rfl, ?_⟩)
  | with_reducible refine Hj.r_c ?_
  | with_reducible refine Hj.r_cons ?_
  | with_reducible refine Hj.r_nil ?_
  | with_reducible refine Hj.r_op ?_
  | with_reducible refine Hj.r_test ?_
  | with_reducible refine Hj.r_B ?_
  | with_reducible refine Hj.r_cb ?_
  | with_reducible refine Hj.r_blV ?_
  | with_reducible refine Hj.r_and ?_
  | with_reducible refine Hj.r_or ?_
  | with_reducible refine Hj.r_not ?_
  | with_reducible refine Hj.r_call ?_
  | with_reducible refine Hj.r_tup ?_
  | with_reducible refine Hj.r_lst ?_
  | with_reducible refine Hj.r_eqS ?_
  | with_reducible refine Hj.r_eqI ?_
  | with_reducible refine Hj.r_neS ?_
  | with_reducible refine Hj.r_neI ?_
  | with_reducible refine Hj.r_isN ?_
  | with_reducible refine Hj.r_I0 ?_
  | with_reducible refine Hj.r_addI ?_
  | with_reducible refine Hj.r_intOf ?_
  | with_reducible refine Hj.r_mx ?_
  | with_reducible refine Hj.r_un ?_
  | with_reducible refine Hj.r_neg ?_
  | with_reducible refine Hj.r_drop ?_
  | with_reducible refine Hj.r_next ?_
  | with_reducible refine Hj.r_retN ?_
  | with_reducible refine Hj.r_sub ?_
  | with_reducible refine Hj.r_asg ?_
  | with_reducible refine Hj.r_bm ?_
  | with_reducible refine Hj.r_bm0 ?_
  | with_reducible refine Hj.r_meth ?_
  | with_reducible refine Hj.r_make ?_
  | with_reducible refine Hj.r_fldE ?_
  | with_reducible refine Hj.r_setF ?_
  | with_reducible refine Hj.r_sl ?_
  | with_reducible refine Hj.r_no ?_
  | with_reducible refine Hj.r_part ?_
  | with_reducible refine Hj.r_partI ?_
  | with_reducible refine Hj.r_m1 ?_
  | with_reducible refine Hj.r_strs ?_
  | with_reducible refine Hj.r_andV ?_
  | with_reducible refine Hj.r_orV ?_
  | with_reducible refine Hj.r_notV ?_
  | with_reducible refine Hj.r_for ?_
  | with_reducible refine Hj.r_rng ?_
  | with_reducible refine Hj.r_itL ?_
  | with_reducible refine Hj.r_itT ?_
  | with_reducible refine Hj.r_itS ?_
  | with_reducible refine Hj.r_itSE ?_))
local macro_rules | `(tactic| walk_at "rk") => `(tactic| repeat (first
  | with_reducible refine Hj.r_seq ?_
  | with_reducible refine Hj.r_nx ?_
  | with_reducible refine Hj.r_rt ?_
  | with_reducible refine L2.iteT ?_
  | with_reducible refine L2.iteF ?_
  | with_reducible refine Hj.r_set ?_
  | with_reducible refine Hj.r_gname ?_
  | with_reducible refine Hj.r_if ?_
  | with_reducible refine Hj.r_ret ?_
  | ((with_reducible show L2.tVar _ _ _ _); refine ⟨_, rfl, ?_⟩)
  | with_reducible refine Hj.r_c ?_
  | with_reducible refine Hj.r_cons ?_
  | with_reducible refine Hj.r_nil ?_
  | with_reducible refine Hj.r_op ?_
  | with_reducible refine Hj.r_test ?_
  | with_reducible refine Hj.r_B ?_
  | with_reducible refine Hj.r_cb ?_
  | with_reducible refine Hj.r_blV ?_
  | with_reducible refine Hj.r_and ?_
  | with_reducible refine Hj.r_or ?_
  | with_reducible refine Hj.r_not ?_
  | with_reducible refine Hj.r_call ?_
  | with_reducible refine Hj.r_tupK ?_
  | with_reducible refine Hj.r_lstK ?_
  | with_reducible refine Hj.r_eqS ?_
  | with_reducible refine Hj.r_eqI ?_
  | with_reducible refine Hj.r_neS ?_
  | with_reducible refine Hj.r_neI ?_
  | with_reducible refine Hj.r_isN ?_
  | with_reducible refine Hj.r_I0 ?_
  | with_reducible refine Hj.r_addI ?_
  | with_reducible refine Hj.r_intOf ?_
  | with_reducible refine Hj.r_mx ?_
  | with_reducible refine Hj.r_un ?_
  | with_reducible refine Hj.r_neg ?_
  | with_reducible refine Hj.r_drop ?_
  | with_reducible refine Hj.r_next ?_
  | with_reducible refine Hj.r_retN ?_
  | with_reducible refine Hj.r_sub ?_
  | with_reducible refine Hj.r_asg ?_
  | with_reducible refine Hj.r_bm ?_
  | with_reducible refine Hj.r_bm0 ?_
  | with_reducible refine Hj.r_meth ?_
  | with_reducible refine Hj.r_make ?_
  | with_reducible refine Hj.r_fldE ?_
  | with_reducible refine Hj.r_setF ?_
  | with_reducible refine Hj.r_sl ?_
  | with_reducible refine Hj.r_no ?_
  | with_reducible refine Hj.r_part ?_
  | with_reducible refine Hj.r_partI ?_
  | with_reducible refine Hj.r_m1 ?_
  | with_reducible refine Hj.r_strs ?_
  | with_reducible refine Hj.r_andV ?_
  | with_reducible refine Hj.r_orV ?_
  | with_reducible refine Hj.r_notV ?_
  | with_reducible refine Hj.r_for ?_
  | with_reducible refine Hj.r_rng ?_
  | with_reducible refine Hj.r_itL ?_
  | with_reducible refine Hj.r_itT ?_
  | with_reducible refine Hj.r_itS ?_
  | with_reducible refine Hj.r_itSE ?_))
local macro_rules | `(tactic| walk_at "cl") => `(tactic| ((try dsimp only [L2.cxOf, L2.Cx.nox]); simp only [L2.start, List.map, List.length, List.replicate, List.cons_append, List.nil_append, Nat.reduceAdd, Nat.reduceSub]))
local macro_rules | `(tactic| walk_at "len") => `(tactic| (intro vs H Q E h; first
  | (obtain ⟨_, ee, _⟩ := h; subst ee; rfl) | (obtain ⟨_, _, ee, _⟩ := h; subst ee; rfl) | (obtain ⟨_, _, _, ee, _⟩ := h; subst ee; rfl) | (obtain ⟨_, _, _, _, ee, _⟩ := h; subst ee; rfl) | (obtain ⟨_, _, _, _, _, ee, _⟩ := h; subst ee; rfl) | (obtain ⟨_, _, _, _, _, _, ee, _⟩ := h; subst ee; rfl)
  | (obtain ⟨_, _, _, _, _, _, _, ee, _⟩ := h; subst ee; rfl) | (obtain ⟨_, _, _, _, _, _, _, _, ee, _⟩ := h; subst ee; rfl) | (obtain ⟨_, _, _, _, _, _, _, _, _, ee, _⟩ := h; subst ee; rfl) | (obtain ⟨_, _, _, _, _, _, _, _, _, _, ee, _⟩ := h; subst ee; rfl)))
namespace Hj
open PySem PySem.Spec L2
section
variable {P : Program} {w : World} {K : PySem.W.Frag} {mg : Str → Option Value} {base : Heap}
theorem r_repK {H : Hp} {Q : VK} {l : Addr} {z : Str} {k : Int} (h : H l = some (.lst [.str z])) (h0 : 0 ≤ k) (h1 : k ≤ 1000) (q : ∀ p H2, H p = none → Kp [] H H2 → H2 p = some (.lst ((List.replicate k.toNat z).map V.str)) → Q (.ref p) H2) : rRep (.ref l) (.int k) H Q := by
  refine ⟨l, k, _, rfl, rfl, h, by omega, by omega, sz (by simp; omega), fun p hp => q p _ hp (Kp.new hp) ?_⟩
  rw [upd_same]
  congr 2
  generalize k.toNat = n
  induction n with
  | zero => rfl
  | succ n ih => rw [List.replicate_succ, List.replicate_succ, List.flatten_cons, ih]; rfl
/-! ### _law_nest_text -/
def spNest : Sp := fun vs H Q _ => ∃ m d : Int, vs = [.int m, .int d] ∧ 0 ≤ m ∧ m ≤ 20 ∧ 0 ≤ d ∧ d ≤ 20 ∧ ∀ (z : Str) (H' : Hp), z.length ≤ 2000 → Kp [] H H' → Q (.str z) H'
theorem sc_law_nest_text : FnScope ["_law_many", "_law_deep"] ["_law_many", "_law_deep"] (defScope s_law_nest_text) := ⟨rfl, rfl, rfl, by decide +kernel, rfl, by decide +kernel, by decide +kernel⟩
theorem ok_law_nest_text {f : Addr} {fd : FuncData} (F : Fun K "_law_nest_text" "_law_nest_text" s_law_nest_text f fd) (T : Txt P K mg) : FnOk P w K mg base CX0 1 f fd ["_law_many", "_law_deep"] spNest := by
  refine F.ok sc_law_nest_text ?_ (fun cdv A outer s H vs Q E hr0 h => ?_)
  · walk_at "len"
  obtain ⟨m, d, rfl, m0, m1, d0, d1, q⟩ := h
  refine ⟨_, (pss_one (ps_ret (pe_join pe_str (pe_op opAdd (pe_op opAdd (pe_op op_rep (pe_lst (pa_cons pe_str pa_nil)) (pv 1)) (pe_op op_rep (pe_lst (pa_cons pe_str pa_nil)) (pv 0))) (pe_op op_rep (pe_lst (pa_cons pe_str pa_nil)) (pv 1)))))), ?_⟩
  walk_at "cl"
  walk_at "rk"
  refine r_newL (by simp) fun p1 H1 n1 k1 e1 => ?_
  walk_at "rk"
  refine r_repK e1 d0 (by omega) fun p2 H2 n2 k2 e2 => ?_
  walk_at "rk"
  refine r_newL (by simp) fun p3 H3 n3 k3 e3 => ?_
  walk_at "rk"
  refine r_repK e3 m0 (by omega) fun p4 H4 n4 k4 e4 => ?_
  refine r_catK ((k3.trans k4).get e2 (by simp)) e4 (by simp; omega) fun p5 H5 n5 k5 e5 => ?_
  walk_at "rk"
  refine r_newL (by simp) fun p6 H6 n6 k6 e6 => ?_
  walk_at "rk"
  refine r_repK e6 d0 (by omega) fun p7 H7 n7 k7 e7 => ?_
  refine r_catK ((k6.trans k7).get e5 (by simp)) e7 (by simp; omega) fun p8 H8 n8 k8 e8 => ?_
  have hl : ∀ y ∈ (List.replicate d.toNat (Str.ofString "each A do") ++ List.replicate m.toNat (Str.ofString "join a b") ++ List.replicate d.toNat (Str.ofString "end")), y.length ≤ 9 := by
    intro y hy
    rcases List.mem_append.mp hy with hy | hy
    · rcases List.mem_append.mp hy with hy | hy
      · rw [(List.mem_replicate.mp hy).2]; decide +kernel
      · rw [(List.mem_replicate.mp hy).2]; decide +kernel
    · rw [(List.mem_replicate.mp hy).2]; decide +kernel
  have hc : (List.replicate d.toNat (Str.ofString "each A do") ++ List.replicate m.toNat (Str.ofString "join a b") ++ List.replicate d.toNat (Str.ofString "end")).length ≤ 60 := by
    simp
    omega
  have hs := sumL_le hl
  refine r_joinL (SqL.of e8) (by omega) ?_
  have hj := join_len kSp (List.replicate d.toNat (Str.ofString "each A do") ++ List.replicate m.toNat (Str.ofString "join a b") ++ List.replicate d.toNat (Str.ofString "end"))
  rw [len_sp] at hj
  exact q _ _ (by omega) ((((((k1.trans k2).trans k3).trans k4).trans k5).trans k6).trans k7 |>.trans k8)
/-! ### _law_odd_words -/
def bnd (n : Nat) : Nat → Nat
  | 0 => n
  | i + 1 => 3 * bnd n i + 1
theorem bnd_up (n i : Nat) : n ≤ bnd n i ∧ bnd n i ≤ bnd n (i + 1) := by
  induction i with
  | zero => simp [bnd]; omega
  | succ i ih => simp only [bnd] at ih ⊢; omega
theorem bnd_3 (n i : Nat) (h : i ≤ 3) : bnd n i ≤ 27 * n + 13 := by
  have e : ∀ j, j = 0 ∨ j = 1 ∨ j = 2 ∨ j = 3 → bnd n j ≤ 27 * n + 13 := by
    rintro j (rfl | rfl | rfl | rfl) <;> simp [bnd] <;> omega
  exact e i (by omega)
def odd1 : List Str := ["join", "clear", "each", "if", "while", "until", "do", "end", "else", "not", "together", "open", "A", "B"]
def odd2 : List Str := ["", "", "A1", "AB", "/", "a", "b2", "Join", "END", "9", "ninewords", "a_b"]
theorem odd_ok : ∀ x ∈ odd1 ++ odd2, x.length ≤ 9 := by decide +kernel
def spOdd (K : PySem.W.Frag) : Sp := fun vs H Q _ => ∃ (st cs a b : Addr) (ns ws : List Str), vs = [.ref st, .ref a, .ref b] ∧ StoreAt H st cs ∧ SqL K H a (ns.map V.str) ∧ a ≠ st ∧ ns.length ≤ 9 ∧ (∀ z ∈ ns, z.length ≤ 9) ∧ SqL K H b (ws.map V.str) ∧ b ≠ st ∧ ws.length ≤ 120 ∧ (∀ z ∈ ws, z.length ≤ 9) ∧
  ∀ (p : Addr) (us : List Str) (H' : Hp), H p = none → H' p = some (.lst (us.map V.str)) → us.length ≤ 4000 → (∀ z ∈ us, z.length ≤ 9) → Kp [st] H H' → StoreAt H' st cs → Q (.ref p) H'
theorem sc_law_odd_words : FnScope ["_law_store_here", "_law_lot_names", "_law_words", "_law_made", "_law_menu", "_law_turn", "_law_spot", "_law_kind", "_law_word"] ["_law_store_here", "_law_lot_names", "_law_words"] (defScope s_law_odd_words) := ⟨rfl, rfl, rfl, by decide +kernel, rfl, by decide +kernel, by decide +kernel⟩
theorem ok_law_odd_words {f : Addr} {fd : FuncData} (F : Fun K "_law_odd_words" "_law_odd_words" s_law_odd_words f fd) (T : Txt P K mg) (D_law_take : Dn P w K mg base CX0 4 "_law_take" psTake spTake) (D_law_pick : Dn P w K mg base CX0 4 "_law_pick" ["_law_store_here", "_law_some"] (spPick K)) :
    FnOk P w K mg base CX0 5 f fd ["_law_store_here", "_law_lot_names", "_law_words"] (spOdd K) := by
  refine F.ok sc_law_odd_words ?_ (fun cdv A outer s H vs Q E hr0 h => ?_)
  · walk_at "len"
  obtain ⟨st, cs, a, b, ns, ws, rfl, S, ha, nea, l9, nl, hb, neb, wl, wn, q⟩ := h
  refine ⟨_, (pss_cons (ps_set (i := 3) sc_law_odd_words.nd rfl (Or.inl rfl) (pe_callTy call_lstOf (by rfl) T.zlist (by decide +kernel) (pa_cons (pv 2) pa_nil))) (pss_cons (ps_set (i := 4) sc_law_odd_words.nd rfl (Or.inl rfl) (pe_lst (pa_cons pe_str (pa_cons pe_str (pa_cons pe_str (pa_cons pe_str (pa_cons pe_str (pa_cons pe_str (pa_cons pe_str (pa_cons pe_str (pa_cons pe_str (pa_cons pe_str (pa_cons pe_str (pa_cons pe_str (pa_cons pe_str (pa_cons pe_str pa_nil)))))))))))))))) (pss_cons (ps_set (i := 4) sc_law_odd_words.nd rfl (Or.inl rfl) (pe_op opAdd (pe_op opAdd (pv 4) (pe_lst (pa_cons pe_str (pa_cons pe_str (pa_cons pe_str (pa_cons pe_str (pa_cons pe_str (pa_cons pe_str (pa_cons pe_str (pa_cons pe_str (pa_cons pe_str (pa_cons pe_str (pa_cons pe_str (pa_cons pe_str pa_nil)))))))))))))) (pe_callTy call_lstOf (by rfl) T.zlist (by decide +kernel) (pa_cons (pv 1) pa_nil)))) (pss_cons (ps_for PassesOwn.never rfl (pi_range1 rfl T.zrange (pa_cons (pe_op opAdd pe_int (pe_d D_law_take hr0 pass0 (pa_cons (pv 0) (pa_cons pe_int pa_nil)))) pa_nil)) (pg_name (i := 5) sc_law_odd_words.nd rfl (Or.inl rfl)) (pss_cons (ps_set (i := 6) sc_law_odd_words.nd rfl (Or.inl rfl) (pe_d D_law_take hr0 pass0 (pa_cons (pv 0) (pa_cons (pe_op opAdd (pe_callB call_lenA (by rfl) T.zlen (by decide +kernel) (pa_cons (pv 3) pa_nil)) pe_int) pa_nil)))) (pss_cons (ps_set (i := 7) sc_law_odd_words.nd rfl (Or.inl rfl) (pe_d D_law_take hr0 pass0 (pa_cons (pv 0) (pa_cons pe_int pa_nil)))) (pss_cons (ps_set (i := 8) sc_law_odd_words.nd rfl (Or.inl rfl) (pe_d D_law_pick hr0 pass0 (pa_cons (pv 0) (pa_cons (pv 4) pa_nil)))) (pss_one (ps_if (pt_cmpR op_eq (pv 7) pe_int (nomark _)) (pss_one (ps_set (i := 3) sc_law_odd_words.nd rfl (Or.inl rfl) (pe_op opAdd (pe_slice slAny (pv 3) po_none (po_some (pv 6))) (pe_slice slAny (pv 3) (po_some (pe_op opAdd (pv 6) pe_int)) po_none)))) (pss_one (ps_if (pt_cmpR op_eq (pv 7) pe_int (nomark _)) (pss_one (ps_set (i := 3) sc_law_odd_words.nd rfl (Or.inl rfl) (pe_op opAdd (pe_op opAdd (pe_slice slAny (pv 3) po_none (po_some (pv 6))) (pe_revL (pe_slice slAny (pe_slice slAny (pv 3) (po_some (pv 6)) po_none) po_none (po_some pe_int)))) (pe_slice slAny (pv 3) (po_some (pe_op opAdd (pv 6) pe_int)) po_none)))) (pss_one (ps_if (pt_cmpR op_eq (pv 7) pe_int (nomark _)) (pss_one (ps_set (i := 3) sc_law_odd_words.nd rfl (Or.inl rfl) (pe_slice slAny (pv 3) po_none (po_some (pv 6))))) (pss_one (ps_if (pt_cmpR op_eq (pv 7) pe_int (nomark _)) (pss_one (ps_set (i := 3) sc_law_odd_words.nd rfl (Or.inl rfl) (pe_op opAdd (pe_op opAdd (pe_slice slAny (pv 3) po_none (po_some (pv 6))) (pe_lst (pa_cons (pv 8) pa_nil))) (pe_slice slAny (pv 3) (po_some (pe_op opAdd (pv 6) pe_int)) po_none)))) (pss_one (ps_set (i := 3) sc_law_odd_words.nd rfl (Or.inl rfl) (pe_op opAdd (pe_op opAdd (pe_slice slAny (pv 3) po_none (po_some (pv 6))) (pe_lst (pa_cons (pv 8) pa_nil))) (pe_slice slAny (pv 3) (po_some (pv 6)) po_none)))))))))))))))) (pss_one (ps_ret (pv 3))))))), ?_⟩
  walk_at "cl"
  walk_at "rk"
  refine r_lstOfLK hb fun p1 H1 n1 k1 e1 => ?_
  walk_at "rk"
  refine r_newL (by simp) fun p2 H2 n2 k2 e2 => ?_
  walk_at "rk"
  refine r_newL (by simp) fun p3 H3 n3 k3 e3 => ?_
  walk_at "rk"
  refine r_catK (us := odd1) (vs := odd2) (k3.get e2 (by simp)) e3 (by decide) fun p4 H4 n4 k4 e4 => ?_
  have K4 := ((k1.trans k2).trans k3).trans k4
  walk_at "rk"
  refine r_lstOfLK (K4.sqL ha (by simp)) fun p5 H5 n5 k5 e5 => ?_
  refine r_catK (us := odd1 ++ odd2) (vs := ns) (k5.get e4 (by simp)) e5 (by simp [odd1, odd2]; omega) fun pm H6 nm k6 em => ?_
  have K6 := (K4.trans k5).trans k6
  have S6 := S.keep0 K6
  have e16 : H6 p1 = some (.lst (ws.map V.str)) := (((((k2.trans k3).trans k4).trans k5).trans k6)).get e1 (by simp)
  have fm : H pm = none := (K4.trans k5).free0 nm
  have nms : pm ∉ [st] := by simpa using (S.ne fm).1.symm
  have hmenu : ∀ z ∈ odd1 ++ odd2 ++ ns, z.length ≤ 9 := fun z hz => by
    rcases List.mem_append.mp hz with h | h
    · exact odd_ok z h
    · exact nl z h
  walk_at "rk"
  refine ⟨st, cs, 3, rfl, S6, by omega, fun r H7 r0 r1 k7 S7 => ?_⟩
  have r2 := r1 (by omega)
  walk_at "rk"
  refine r_rngE (by omega) (by omega) ?_
  refine for_range (lo := 0) (n := (1 + r : Int).toNat) (fun i σ' H' => ∃ (pw : Addr) (us : List Str) (o5 o6 o7 o8 : Option V), σ' = [some (.ref st), some (.ref a), some (.ref b), some (.ref pw), some (.ref pm), o5, o6, o7, o8] ∧ H pw = none ∧ H' pw = some (.lst (us.map V.str)) ∧ H' pm = some (.lst ((odd1 ++ odd2 ++ ns).map V.str)) ∧
    us.length ≤ bnd ws.length i ∧ (∀ z ∈ us, z.length ≤ 9) ∧ Kp [st] H H' ∧ StoreAt H' st cs) ⟨p1, ws, _, _, _, _, rfl, n1, k7.get e16 (by simpa using (S.ne n1).1.symm), k7.get em nms, Nat.le_refl _, wn, K6.all.trans k7, S7⟩ ?_ ?_
  · rintro i σ' H8 hi ⟨pw, us, o5, o6, o7, o8, rfl, nw, e8, m8, l8, n8, K8, S8⟩
    have nws : pw ∉ [st] := by simpa using (S.ne nw).1.symm
    have lu : us.length ≤ 4000 := by
      have := bnd_3 ws.length i (by omega)
      omega
    walk_at "rk"
    refine r_lenL (SqL.of e8) ?_
    walk_at "rk"
    refine ⟨st, cs, _, rfl, S8, by rw [List.length_map]; omega, fun spot H9 _ _ k9 S9 => ?_⟩
    walk_at "rk"
    refine ⟨st, cs, 5, rfl, S9, by omega, fun kd Ha _ _ ka Sa => ?_⟩
    walk_at "rk"
    have mA := ka.get (k9.get m8 nms) nms
    have eA := ka.get (k9.get e8 nws) nws
    refine ⟨st, cs, pm, (odd1 ++ odd2 ++ ns).map V.str, rfl, Sa, SqL.of mA, by simpa using nms, by simp [odd1], by rw [List.length_map]; simp [odd1, odd2]; omega, fun v Hb hv kb Sb => ?_⟩
    obtain ⟨z, hz, rfl⟩ := mem_strs hv
    have zl := hmenu z hz
    have mB := kb.get mA nms
    have eB := kb.get eA nws
    have KB := ((K8.trans k9).trans ka).trans kb
    have done : ∀ {Hc : Hp} {pc : Addr} {ys : List Str} {o5 o6 o7 o8 : Option V}, Kp [] Hb Hc → (∃ Hd, Kp [] Hb Hd ∧ Hd pc = none) → Hc pc = some (.lst (ys.map V.str)) → ys.length ≤ 3 * us.length + 1 → (∀ y ∈ ys, y ∈ us ∨ y = z) →
        ∃ (pw : Addr) (us : List Str) (o5' o6' o7' o8' : Option V), [some (.ref st), some (.ref a), some (.ref b), some (.ref pc), some (.ref pm), o5, o6, o7, o8] = [some (.ref st), some (.ref a), some (.ref b), some (.ref pw), some (.ref pm), o5', o6', o7', o8'] ∧ H pw = none ∧ Hc pw = some (.lst (us.map V.str)) ∧ Hc pm = some (.lst ((odd1 ++ odd2 ++ ns).map V.str)) ∧
        us.length ≤ bnd ws.length (i + 1) ∧ (∀ z ∈ us, z.length ≤ 9) ∧ Kp [st] H Hc ∧ StoreAt Hc st cs := fun {Hc pc ys o5 o6 o7 o8} kc ⟨Hd, kd, nd⟩ ec lc mc => by
      refine ⟨pc, ys, _, _, _, _, rfl, (Sb.keep0 kd).fr (KB.trans kd.all) nd, ec, kc.get mB (by simp), by show _ ≤ 3 * bnd ws.length i + 1; omega, fun y hy => ?_, KB.trans kc.all, Sb.keep0 kc⟩
      rcases mc y hy with h | h
      · exact n8 y h
      · rw [h]; exact zl
    walk_at "rk"
    refine r_d (fun c1 => ?_) (fun c1 => ?_)
    · walk_at "rk"
      refine r_slSK eB fun pc Hc yc nc kc ec hc lc => ?_
      walk_at "rk"
      refine r_slSK (kc.get eB (by simp)) fun pd Hd yd nd kd ed hd ld => ?_
      refine r_catK (kd.get ec (by simp)) ed (by omega) fun pe He ne ke ee => ?_
      refine done ((kc.trans kd).trans ke) ⟨Hd, kc.trans kd, ne⟩ ee (by rw [List.length_append]; omega) fun y hy => .inl ?_
      rcases List.mem_append.mp hy with h | h
      · exact hc y h
      · exact hd y h
    walk_at "rk"
    refine r_d (fun c2 => ?_) (fun c2 => ?_)
    · walk_at "rk"
      refine r_slSK eB fun pc Hc yc nc kc ec hc lc => ?_
      walk_at "rk"
      refine r_revL ?_
      walk_at "rk"
      refine r_slSK (kc.get eB (by simp)) fun pd Hd yd nd kd ed hd ld => ?_
      walk_at "rk"
      refine r_slSK ed fun pe He ye ne ke ee he le => ?_
      refine ⟨pe, ye.map V.str, rfl, SqL.of ee, fun pf nf => ?_⟩
      have kf : Kp [] He (upd He pf (.lst (ye.map V.str).reverse)) := Kp.new nf
      have ef : (upd He pf (.lst (ye.map V.str).reverse)) pf = some (.lst (ye.reverse.map V.str)) := by rw [upd_same, List.map_reverse]
      show rAdd3 _ _ (upd He pf (.lst (ye.map V.str).reverse)) _
      generalize upd He pf (.lst (ye.map V.str).reverse) = Hf at kf ef
      refine r_catK (((kd.trans ke).trans kf).get ec (by simp)) ef (by rw [List.length_reverse]; omega) fun pg Hg ng kg eg => ?_
      have KG := ((((kc.trans kd).trans ke).trans kf).trans kg)
      walk_at "rk"
      refine r_slSK (KG.get eB (by simp)) fun ph Hh yh nh kh eh hh lh => ?_
      refine r_catK (kh.get eg (by simp)) eh (by rw [List.length_append, List.length_reverse]; omega) fun pi Hi ni ki ei => ?_
      refine done ((KG.trans kh).trans ki) ⟨Hh, KG.trans kh, ni⟩ ei (by rw [List.length_append, List.length_append, List.length_reverse]; omega) fun y hy => .inl ?_
      rcases List.mem_append.mp hy with h | h
      · rcases List.mem_append.mp h with h | h
        · exact hc y h
        · exact hd y (he y (List.mem_reverse.mp h))
      · exact hh y h
    walk_at "rk"
    refine r_d (fun c3 => ?_) (fun c3 => ?_)
    · walk_at "rk"
      refine r_slSK eB fun pc Hc yc nc kc ec hc lc => ?_
      exact done kc ⟨Hb, .refl, nc⟩ ec (by omega) fun y hy => .inl (hc y hy)
    walk_at "rk"
    refine r_d (fun c4 => ?_) (fun c4 => ?_)
    · walk_at "rk"
      refine r_slSK eB fun pc Hc yc nc kc ec hc lc => ?_
      walk_at "rk"
      refine r_newL (by simp) fun pd Hd nd kd ed => ?_
      refine r_catK (vs := [z]) (kd.get ec (by simp)) ed (by simp; omega) fun pe He ne ke ee => ?_
      have KE := (kc.trans kd).trans ke
      walk_at "rk"
      refine r_slSK (KE.get eB (by simp)) fun pf Hf yf nf kf ef hf lf => ?_
      refine r_catK (kf.get ee (by simp)) ef (by simp; omega) fun pg Hg ng kg eg => ?_
      refine done ((KE.trans kf).trans kg) ⟨Hf, KE.trans kf, ng⟩ eg (by simp; omega) fun y hy => ?_
      rcases List.mem_append.mp hy with h | h
      · rcases List.mem_append.mp h with h | h
        · exact .inl (hc y h)
        · exact .inr (List.mem_singleton.mp h)
      · exact .inl (hf y h)
    · walk_at "rk"
      refine r_slSK eB fun pc Hc yc nc kc ec hc lc => ?_
      walk_at "rk"
      refine r_newL (by simp) fun pd Hd nd kd ed => ?_
      refine r_catK (vs := [z]) (kd.get ec (by simp)) ed (by simp; omega) fun pe He ne ke ee => ?_
      have KE := (kc.trans kd).trans ke
      walk_at "rk"
      refine r_slSK (KE.get eB (by simp)) fun pf Hf yf nf kf ef hf lf => ?_
      refine r_catK (kf.get ee (by simp)) ef (by simp; omega) fun pg Hg ng kg eg => ?_
      refine done ((KE.trans kf).trans kg) ⟨Hf, KE.trans kf, ng⟩ eg (by simp; omega) fun y hy => ?_
      rcases List.mem_append.mp hy with h | h
      · rcases List.mem_append.mp h with h | h
        · exact .inl (hc y h)
        · exact .inr (List.mem_singleton.mp h)
      · exact .inl (hf y h)
  · rintro σ' H8 ⟨pw, us, o5, o6, o7, o8, rfl, nw, e8, m8, l8, n8, K8, S8⟩
    walk_at "rk"
    have := bnd_3 ws.length (1 + r : Int).toNat (by omega)
    exact q pw us _ nw e8 (by omega) n8 K8 S8
end
end Hj
end
section
set_option Elab.async false
set_option linter.all false
set_option maxRecDepth 100000
namespace Hj
open PySem
/-! ### what the machine has read, as the second reader keeps it -/
def kTerm : Str := "term"
def kVar : Str := "variable"
def kTest : Str := "test"
def kPlain : Str := "plain"
def tkw : TK → Str
  | .ife => kIf
  | .whl => kWhile
  | .unt => kUntil
def nw (n : Bool) : List Str := if n = true then [kNot] else []
def wtg : Pend → List Str
  | .join0 => [kTerm, kTerm]
  | .join1 _ => [kTerm]
  | .clear0 => [kTerm]
  | .each0 => [kVar, kDo]
  | .each1 _ => [kDo]
  | .t0 _ => [kTest, kDo]
  | .tn _ => [kPlain, kDo]
  | .tw _ _ _ => [kTerm, kTerm, kDo]
  | .tx _ _ _ _ => [kTerm, kDo]
  | .ty _ _ _ _ _ => [kDo]
def bgn : Pend → List Str
  | .join0 => [kJoin]
  | .join1 x => [kJoin, x]
  | .clear0 => [kClear]
  | .each0 => [kEach]
  | .each1 v => [kEach, v]
  | .t0 k => [tkw k]
  | .tn k => [tkw k, kNot]
  | .tw k n w => tkw k :: (nw n ++ [w])
  | .tx k n w x => tkw k :: (nw n ++ [w, x])
  | .ty k n w x y => tkw k :: (nw n ++ [w, x, y])
def wtgO : Option Pend → List Str
  | none => []
  | some p => wtg p
def bgnO : Option Pend → List Str
  | none => []
  | some p => bgn p
def stands (kd w : Str) (sc : List Str) : Bool :=
  if kd = kTerm then isNm w || sc.contains w else if kd = kVar then isVar w else if kd = kDo then decide (w = kDo) else decide (w = kTog) || decide (w = kOpen) || (decide (kd = kTest) && decide (w = kNot))
def nextW : List Str → Str → List Str
  | k :: r, w => if k = kTest ∧ w = kNot then kPlain :: r else if k = kTest ∨ k = kPlain then kTerm :: kTerm :: r else r
  | [], _ => []
/-- what a block's head is, in the second reader's words -/
inductive HdW : Hd → Str → List Str → Prop
  | each {v} : HdW (.each v) kEach [v]
  | ife {t} : HdW (.ife t) kIf (wT t)
  | whl {t} : HdW (.whl t) kWhile (wT t)
  | unt {t} : HdW (.whl (opp t)) kUntil (wT t)
theorem kw_ne : (kTerm ≠ kVar ∧ kTerm ≠ kDo ∧ kTerm ≠ kTest ∧ kTerm ≠ kPlain) ∧ (kVar ≠ kTerm ∧ kVar ≠ kDo ∧ kVar ≠ kTest ∧ kVar ≠ kPlain) ∧ (kDo ≠ kTerm ∧ kDo ≠ kVar ∧ kDo ≠ kTest ∧ kDo ≠ kPlain) ∧ (kTest ≠ kTerm ∧ kTest ≠ kVar ∧ kTest ≠ kDo ∧ kTest ≠ kPlain) ∧ (kPlain ≠ kTerm ∧ kPlain ≠ kVar ∧ kPlain ≠ kDo ∧ kPlain ≠ kTest) := by decide +kernel
theorem kw_ne2 : kNot ≠ kTog ∧ kNot ≠ kOpen ∧ kTog ≠ kNot ∧ kOpen ≠ kNot := by decide +kernel
/-- what the second reader does with a word, at a place in a statement -/
def NxW (p : Pend) (w : Str) : Nx → Prop
  | .more q => nextW (wtg p) w = wtg q ∧ bgn p ++ [w] = bgn q
  | .stm (.join x y) => nextW (wtg p) w = [] ∧ bgn p ++ [w] = [kJoin, x, y]
  | .stm (.clear x) => nextW (wtg p) w = [] ∧ bgn p ++ [w] = [kClear, x]
  | .stm _ => False
  | .opn h => nextW (wtg p) w = [] ∧ ∃ k ws, HdW h k ws ∧ bgn p ++ [w] = k :: (ws ++ [kDo]) ∧ k ≠ kJoin ∧ k ≠ kClear
theorem tkw_ne (k : TK) : tkw k ≠ kJoin ∧ tkw k ≠ kClear := by cases k <;> decide +kernel
theorem each_ne : kEach ≠ kJoin ∧ kEach ≠ kClear := by decide +kernel
theorem wtg_cons (p : Pend) : ∃ k r, wtg p = k :: r := by cases p <;> exact ⟨_, _, rfl⟩
theorem bgn_cons (p : Pend) : ∃ k r, bgn p = k :: r := by cases p <;> exact ⟨_, _, rfl⟩
theorem mk_hdW (k : TK) (t : Tst) : HdW (mkHd k t) (tkw k) (wT t) := by
  cases k
  · exact .ife
  · exact .whl
  · exact .unt
theorem isTerm_same {a b : List Str} (h : ∀ z, z ∈ a ↔ z ∈ b) (w : Str) : (isNm w || a.contains w) = isTerm b w := by
  unfold isTerm
  congr 1
  rw [Bool.eq_iff_iff, List.contains_iff_mem, List.contains_iff_mem]
  exact h w
theorem pnext_ok {sc sc' : List Str} (h : ∀ z, z ∈ sc' ↔ z ∈ sc) (p : Pend) (w : Str) : match wtg p with
    | k :: _ => (stands k w sc' = (pnext sc p w).isSome) ∧ ∀ nx, pnext sc p w = some nx → NxW p w nx
    | [] => False := by
  obtain ⟨⟨a1, a2, a3, a4⟩, ⟨b1, b2, b3, b4⟩, ⟨c1, c2, c3, c4⟩, ⟨d1, d2, d3, d4⟩, ⟨e1, e2, e3, e4⟩⟩ := kw_ne
  obtain ⟨n1, n2, n3, n4⟩ := kw_ne2
  have ht := isTerm_same h w
  cases p with
  | join0 =>
    simp only [wtg, stands, pnext, if_pos, ht]
    refine ⟨by split <;> simp_all, fun nx e => ?_⟩
    split at e
    · obtain rfl := Option.some.inj e
      exact ⟨by simp [nextW, wtg, a3, a4], rfl⟩
    · cases e
  | join1 x =>
    simp only [wtg, stands, pnext, if_pos, ht]
    refine ⟨by split <;> simp_all, fun nx e => ?_⟩
    split at e
    · obtain rfl := Option.some.inj e
      exact ⟨by simp [nextW, wtg, a3, a4], rfl⟩
    · cases e
  | clear0 =>
    simp only [wtg, stands, pnext, if_pos, ht]
    refine ⟨by split <;> simp_all, fun nx e => ?_⟩
    split at e
    · obtain rfl := Option.some.inj e
      exact ⟨by simp [nextW, wtg, a3, a4], rfl⟩
    · cases e
  | each0 =>
    simp only [wtg, stands, pnext, if_neg b1, if_pos]
    refine ⟨by split <;> simp_all, fun nx e => ?_⟩
    split at e
    · obtain rfl := Option.some.inj e
      exact ⟨by simp [nextW, wtg, b3, b4], rfl⟩
    · cases e
  | each1 v =>
    simp only [wtg, stands, pnext, if_neg c1, if_neg c2, if_pos]
    refine ⟨by split <;> simp_all, fun nx e => ?_⟩
    split at e
    · next hw =>
      obtain rfl := Option.some.inj e
      exact ⟨by simp [nextW, wtg, c3, c4], _, _, .each, by rw [hw]; rfl, each_ne⟩
    · cases e
  | t0 k =>
    simp only [wtg, stands, pnext, if_neg d1, if_neg d2, if_neg d3]
    refine ⟨?_, fun nx e => ?_⟩
    · by_cases x1 : w = kNot
      · simp [x1]
      · by_cases x2 : w = kTog ∨ w = kOpen
        · rw [if_neg x1, if_pos x2]
          rcases x2 with x2 | x2 <;> simp [x2]
        · rw [if_neg x1, if_neg x2]
          have y1 : ¬ w = kTog := fun z => x2 (.inl z)
          have y2 : ¬ w = kOpen := fun z => x2 (.inr z)
          simp [x1, y1, y2]
    · split at e
      · next hw =>
        obtain rfl := Option.some.inj e
        exact ⟨by simp [nextW, wtg, hw], by rw [hw]; rfl⟩
      · next hw =>
        split at e
        · obtain rfl := Option.some.inj e
          exact ⟨by simp [nextW, wtg, hw], by simp [bgn, nw]⟩
        · cases e
  | tn k =>
    simp only [wtg, stands, pnext, if_neg e1, if_neg e2, if_neg e3]
    refine ⟨?_, fun nx e => ?_⟩
    · by_cases x2 : w = kTog ∨ w = kOpen
      · rw [if_pos x2]
        rcases x2 with x2 | x2 <;> simp [x2]
      · rw [if_neg x2]
        have y1 : ¬ w = kTog := fun z => x2 (.inl z)
        have y2 : ¬ w = kOpen := fun z => x2 (.inr z)
        simp [e4, y1, y2]
    · split at e
      · obtain rfl := Option.some.inj e
        exact ⟨by simp [nextW, wtg, e4], by simp [bgn, nw]⟩
      · cases e
  | tw k n x =>
    simp only [wtg, stands, pnext, if_pos, ht]
    refine ⟨by split <;> simp_all, fun nx e => ?_⟩
    split at e
    · obtain rfl := Option.some.inj e
      exact ⟨by simp [nextW, wtg, a3, a4], by simp [bgn]⟩
    · cases e
  | tx k n x y =>
    simp only [wtg, stands, pnext, if_pos, ht]
    refine ⟨by split <;> simp_all, fun nx e => ?_⟩
    split at e
    · obtain rfl := Option.some.inj e
      exact ⟨by simp [nextW, wtg, a3, a4], by simp [bgn]⟩
    · cases e
  | ty k n x y z =>
    simp only [wtg, stands, pnext, if_neg c1, if_neg c2, if_pos]
    refine ⟨by split <;> simp_all, fun nx e => ?_⟩
    split at e
    · next hw =>
      obtain rfl := Option.some.inj e
      refine ⟨by simp [nextW, wtg, c3, c4], _, _, mk_hdW k ⟨n, x, y, z⟩, ?_, tkw_ne k⟩
      rw [hw]
      cases n <;> simp [bgn, nw, wT]
    · cases e
end Hj
end
section
set_option Elab.async false
set_option linter.all false
set_option maxRecDepth 100000
set_option maxHeartbeats 1000000
namespace Hj
open PySem
/-! ### what was read is an order as it must be, with its measures -/
def oD : Option (List Stm) → Nat
  | some b => depO b
  | none => 0
def oC : Option (List Stm) → Nat
  | some b => cntO b
  | none => 0
def hC : Hd → Nat
  | .root => 0
  | _ => 1
def frD (f : Fr) : Nat := max (depO f.cur) (oD f.oth)
def frC (f : Fr) : Nat := cntO f.cur + oC f.oth + hC f.hd
def stC : List Fr → Nat
  | [] => 0
  | f :: r => frC f + stC r
def stD : List Fr → Nat
  | [] => 0
  | f :: r => max (r.length + frD f) (stD r)
def okHd (sc : List Str) : Hd → Prop
  | .root => True
  | .each v => isVar v = true
  | .ife t => okTst sc t
  | .whl t => okTst sc t
def isIf : Hd → Prop
  | .ife _ => True
  | _ => False
def isRoot : Hd → Prop
  | .root => True
  | _ => False
def okOth (sc : List Str) : Option (List Stm) → Prop
  | some b => okO sc b
  | none => True
def okSt : List Fr → Prop
  | [] => True
  | f :: r => (okO (scp (f :: r)) f.cur ∧ okOth (scp (f :: r)) f.oth ∧ okHd (scp r) f.hd ∧ (f.oth ≠ none → isIf f.hd) ∧ (isRoot f.hd ↔ r = [])) ∧ okSt r
def okP (sc : List Str) : Pend → Prop
  | .join1 x => isTerm sc x = true
  | .each1 v => isVar v = true
  | .tw _ _ w => w = kTog ∨ w = kOpen
  | .tx _ _ w x => (w = kTog ∨ w = kOpen) ∧ isTerm sc x = true
  | .ty _ _ w x y => (w = kTog ∨ w = kOpen) ∧ isTerm sc x = true ∧ isTerm sc y = true
  | _ => True
def pC : Option Pend → Nat
  | some _ => 1
  | none => 0
structure MSok (s : MS) : Prop where
  ok : okSt s.stk
  ne : s.stk ≠ []
  many : s.many = stC s.stk + pC s.pend
  deep : s.deep = stD s.stk
  pend : ∀ p, s.pend = some p → okP (scp s.stk) p
theorem scp_cons (f : Fr) (r : List Fr) (a : List Stm) (b : Option (List Stm)) : scp (⟨f.hd, a, b⟩ :: r) = scp (f :: r) := rfl
theorem okSt_add {f : Fr} {r : List Fr} {t : Stm} (h : okSt (f :: r)) (ht : okS (scp (f :: r)) t) : okSt (addS t (f :: r)) := by
  obtain ⟨⟨h1, h2, h3, h4, h5⟩, h6⟩ := h
  refine ⟨⟨?_, h2, h3, h4, h5⟩, h6⟩
  exact (okO_app _ _).mpr ⟨h1, okO_one ht⟩
theorem stC_add (f : Fr) (r : List Fr) (t : Stm) : stC (addS t (f :: r)) = stC (f :: r) + cntS t := by
  simp only [addS, stC, frC, cntO_app, cntO_one]
  omega
theorem stD_add (f : Fr) (r : List Fr) (t : Stm) : stD (addS t (f :: r)) = max (stD (f :: r)) (r.length + depS t) := by
  simp only [addS, stD, frD, depO_app, depO_one]
  omega
theorem clo_ok {f g : Fr} {r : List Fr} (h : okSt (f :: g :: r)) : okS (scp (g :: r)) (clo f) ∧ cntS (clo f) = frC f ∧ depS (clo f) = 1 + frD f := by
  obtain ⟨hd, cur, oth⟩ := f
  obtain ⟨⟨h1, h2, h3, h4, h5⟩, h6⟩ := h
  simp only at h1 h2 h3 h4 h5
  cases hd with
  | root => exact absurd (h5.mp trivial) (by simp)
  | each v =>
    cases oth with
    | some b => exact absurd (h4 (by simp)) (by simp [isIf])
    | none => exact ⟨by simp only [clo, okS]; exact ⟨h3, h1⟩, by simp [clo, cntS, frC, oC, hC]; omega, by simp [clo, depS, frD, oD]⟩
  | whl t =>
    cases oth with
    | some b => exact absurd (h4 (by simp)) (by simp [isIf])
    | none => exact ⟨by simp only [clo, okS]; exact ⟨h3, h1⟩, by simp [clo, cntS, frC, oC, hC]; omega, by simp [clo, depS, frD, oD]⟩
  | ife t =>
    cases oth with
    | some b => exact ⟨by simp only [clo, okS]; exact ⟨h3, h2, h1⟩, by simp [clo, cntS, frC, oC, hC]; omega, by simp [clo, depS, frD, oD]; omega⟩
    | none => exact ⟨by simp only [clo, okS, okO]; exact ⟨h3, h1, trivial⟩, by simp [clo, cntS, cntO, frC, oC, hC]; omega, by simp [clo, depS, depO, frD, oD]⟩
theorem m0_ok : MSok m0 := ⟨by simp [m0, okSt, okO, okOth, okHd, isRoot], by simp [m0], by simp [m0, stC, frC, cntO, oC, hC, pC], by simp [m0, stD, frD, depO, oD], fun p e => by simp [m0] at e⟩
theorem pnext_P {sc : List Str} {p : Pend} {w : Str} {nx : Nx} (hp : okP sc p) (e : pnext sc p w = some nx) : match nx with
    | .more q => okP sc q
    | .stm t => okS sc t ∧ cntS t = 1 ∧ depS t = 0
    | .opn h => okHd sc h ∧ hC h = 1 := by
  cases p <;> simp only [pnext] at e
  case join0 => split at e <;> cases e; assumption
  case join1 x => split at e <;> cases e; exact ⟨by simp only [okS]; exact ⟨hp, by assumption⟩, by simp [cntS], by simp [depS]⟩
  case clear0 => split at e <;> cases e; exact ⟨by simp only [okS]; assumption, by simp [cntS], by simp [depS]⟩
  case each0 => split at e <;> cases e; assumption
  case each1 v => split at e <;> cases e; exact ⟨hp, rfl⟩
  case t0 k =>
    split at e
    · cases e; trivial
    · split at e <;> cases e
      assumption
  case tn k => split at e <;> cases e; assumption
  case tw k n x => split at e <;> cases e; exact ⟨hp, by assumption⟩
  case tx k n x y => split at e <;> cases e; exact ⟨hp.1, hp.2, by assumption⟩
  case ty k n x y z =>
    split at e <;> cases e
    cases k
    · exact ⟨hp, rfl⟩
    · exact ⟨hp, rfl⟩
    · exact ⟨okTst_opp hp, rfl⟩
theorem okSt_len : ∀ {r : List Fr}, r ≠ [] → okSt r → True := fun _ _ => trivial
theorem mstep_ok {s t : MS} {w : Str} (h : MSok s) (e : mstep s w = some t) : MSok t := by
  obtain ⟨stk, pend, many, deep⟩ := s
  obtain ⟨h1, h2, h3, h4, h5⟩ := h
  simp only at h1 h2 h3 h4 h5
  obtain ⟨f, r, rfl⟩ : ∃ f r, stk = f :: r := by
    cases stk with
    | nil => exact absurd rfl h2
    | cons f r => exact ⟨f, r, rfl⟩
  cases pend with
  | none =>
    simp only [mstep, mfree] at e
    split at e
    · next p hb =>
      obtain rfl := Option.some.inj e
      refine ⟨h1, h2, by simp only [h3, pC], h4, fun q eq => ?_⟩
      obtain rfl := Option.some.inj eq
      simp only [begins] at hb
      repeat (split at hb; cases hb; trivial)
      cases hb
    · split at e
      · -- else
        obtain ⟨hd, cur, oth⟩ := f
        cases hd <;> cases oth <;> simp only [mElse, Option.map_some, Option.map_none] at e <;> cases e
        next t =>
        obtain ⟨⟨a1, a2, a3, a4, a5⟩, a6⟩ := h1
        simp only at a1 a2 a3 a4 a5
        refine ⟨⟨⟨by simp only [okO], a1, a3, fun _ => trivial, a5⟩, a6⟩, by simp, ?_, ?_, fun q eq => by cases eq⟩
        · simp only [h3, stC, frC, oC, hC, cntO, pC]; omega
        · simp only [h4, stD, frD, oD, depO]; omega
      · split at e
        · cases r with
          | nil => simp [mEnd] at e
          | cons g r =>
            simp only [mEnd, Option.map_some] at e
            obtain rfl := Option.some.inj e
            obtain ⟨c1, c2, c3⟩ := clo_ok h1
            refine ⟨okSt_add h1.2 c1, by simp [addS], ?_, ?_, fun q eq => by cases eq⟩
            · simp only [h3, stC_add, c2, pC]
              simp only [stC]
              omega
            · rw [stD_add, c3, h4]
              simp only [stD, List.length_cons]
              omega
        · cases e
  | some p =>
    simp only [mstep] at e
    cases hn : pnext (scp (f :: r)) p w with
    | none => rw [hn] at e; cases e
    | some nx =>
      rw [hn] at e
      simp only [Option.map_some] at e
      obtain rfl := Option.some.inj e
      have hp := pnext_P (h5 p rfl) hn
      cases nx with
      | more q => exact ⟨h1, h2, h3, h4, fun q' eq => by obtain rfl := Option.some.inj eq; exact hp⟩
      | stm t =>
        obtain ⟨a, b, c⟩ := hp
        refine ⟨okSt_add h1 a, by simp [mgo, addS], ?_, ?_, fun q eq => by cases eq⟩
        · simp only [mgo, stC_add, h3, b, pC]
        · simp only [mgo, stD_add, h4, c]
          simp only [stD]
          omega
      | opn hd =>
        obtain ⟨a, b⟩ := hp
        refine ⟨⟨⟨by simp only [okO], trivial, a, fun z => absurd rfl z, ?_⟩, h1⟩, by simp [mgo], ?_, ?_, fun q eq => by cases eq⟩
        · cases hd <;> simp [isRoot]
          simp [hC] at b
        · simp only [mgo, stC, frC, cntO, oC, b, h3, pC]
          omega
        · simp only [mgo, stD, frD, depO, oD, h4, List.length_cons]
          omega
theorem mtot_ok : ∀ {ws : List Str} {s : MS} {o : List Stm} {n d : Nat}, MSok s → mtot s ws = .told o n d → okO [] o ∧ cntO o = n ∧ depO o = d ∧ n ≤ 12 ∧ d ≤ 3
  | [], s, o, n, d, h, e => by
    obtain ⟨stk, pend, many, deep⟩ := s
    obtain ⟨h1, h2, h3, h4, h5⟩ := h
    simp only [mtot, mend] at e
    simp only at h1 h2 h3 h4 h5
    split at e
    · cases e
    · next hc =>
      split at e
      · cases e
      · split at e
        · cases e
        · cases stk with
          | nil => exact absurd rfl h2
          | cons f r =>
            cases r with
            | cons g r => exact absurd (Or.inr (by simp)) hc
            | nil =>
              cases pend with
              | some p => exact absurd (Or.inl rfl) hc
              | none =>
                obtain ⟨hd, cur, oth⟩ := f
                obtain ⟨⟨a1, a2, a3, a4, a5⟩, a6⟩ := h1
                simp only at a1 a2 a3 a4 a5
                cases hd with
                | each v => exact absurd (a5.mpr trivial) (by simp [isRoot])
                | ife t => exact absurd (a5.mpr trivial) (by simp [isRoot])
                | whl t => exact absurd (a5.mpr trivial) (by simp [isRoot])
                | root =>
                  cases oth with
                  | some b => exact absurd (a4 (by simp)) (by simp [isIf])
                  | none =>
                    simp [rootOf] at e
                    simp [stC, frC, oC, hC, pC] at h3
                    simp [stD, frD, oD] at h4
                    obtain ⟨rfl, rfl, rfl⟩ := e
                    exact ⟨a1, h3.symm, h4.symm, by omega, by omega⟩
  | w :: ws, s, o, n, d, h, e => by
    simp only [mtot] at e
    cases hm : mstep s w with
    | none => rw [hm] at e; cases e
    | some t =>
      rw [hm] at e
      exact mtot_ok (mstep_ok h hm) e
/-- an order that was read is one, and its measures were told -/
theorem read_ok {ws : List Str} {o : List Stm} {n d : Nat} (e : readW ws = .told o n d) : okO [] o ∧ cntO o = n ∧ depO o = d ∧ n ≤ 12 ∧ d ≤ 3 := mtot_ok m0_ok e
end Hj
end
section
set_option Elab.async false
set_option linter.all false
set_option maxRecDepth 100000
set_option maxHeartbeats 8000000
local macro_rules | `(tactic| walk_at "rd") => `(tactic| repeat (first
  | with_reducible refine Hj.r_seq ?_
  | with_reducible refine Hj.r_nx ?_
  | with_reducible refine Hj.r_rt ?_
  | with_reducible refine L2.iteT ?_
  | with_reducible refine L2.iteF ?_
  | with_reducible refine Hj.r_set ?_
  | with_reducible refine Hj.r_gname ?_
  | with_reducible refine Hj.r_if ?_
  | with_reducible refine Hj.r_ret ?_
  | ((with_reducible show L2.tVar _ _ _ _); refine ⟨_, rfl, ?_⟩)
  | with_reducible refine Hj.r_c ?_
  | with_reducible refine Hj.r_cons ?_
  | with_reducible refine Hj.r_nil ?_
  | with_reducible refine Hj.r_op ?_
  | with_reducible refine Hj.r_test ?_
  | with_reducible refine Hj.r_B ?_
  | with_reducible refine Hj.r_cb ?_
  | with_reducible refine Hj.r_blV ?_
  | with_reducible refine Hj.r_and ?_
  | with_reducible refine Hj.r_or ?_
  | with_reducible refine Hj.r_not ?_
  | with_reducible refine Hj.r_call ?_
  | with_reducible refine Hj.r_tup ?_
  | with_reducible refine Hj.r_lst ?_
  | with_reducible refine Hj.r_eqS ?_
  | with_reducible refine Hj.r_eqI ?_
  | with_reducible refine Hj.r_neS ?_
  | with_reducible refine Hj.r_neI ?_
  | with_reducible refine Hj.r_isN ?_
  | with_reducible refine Hj.r_I0 ?_
  | with_reducible refine Hj.r_addI ?_
  | with_reducible refine Hj.r_intOf ?_
  | with_reducible refine Hj.r_mx ?_
  | with_reducible refine Hj.r_un ?_
  | with_reducible refine Hj.r_neg ?_
  | with_reducible refine Hj.r_drop ?_
  | with_reducible refine Hj.r_next ?_
  | with_reducible refine Hj.r_retN ?_
  | with_reducible refine Hj.r_sub ?_
  | with_reducible refine Hj.r_asg ?_
  | with_reducible refine Hj.r_bm ?_
  | with_reducible refine Hj.r_bm0 ?_
  | with_reducible refine Hj.r_meth ?_
  | with_reducible refine Hj.r_make ?_
  | with_reducible refine Hj.r_fldE ?_
  | with_reducible refine Hj.r_setF ?_
  | with_reducible refine Hj.r_sl ?_
  | with_reducible refine Hj.r_no ?_
  | with_reducible refine Hj.r_part ?_
  | with_reducible refine Hj.r_partI ?_
  | with_reducible refine Hj.r_m1 ?_
  | with_reducible refine Hj.r_strs ?_
  | with_reducible refine Hj.r_andV ?_
  | with_reducible refine Hj.r_orV ?_
  | with_reducible refine Hj.r_notV ?_
  | with_reducible refine Hj.r_for ?_
  | with_reducible refine Hj.r_rng ?_
  | with_reducible refine Hj.r_itL ?_
  | with_reducible refine Hj.r_itT ?_
  | with_reducible refine Hj.r_itS ?_
  | with_reducible refine Hj.r_itSE ?_))
local macro_rules | `(tactic| walk_at "rk") => `(tactic| repeat (first
  | with_reducible refine Hj.r_seq ?_
  | with_reducible refine Hj.r_nx ?_
  | with_reducible refine Hj.r_rt ?_
  | with_reducible refine L2.iteT ?_
  | with_reducible refine L2.iteF ?_
  | with_reducible refine Hj.r_set ?_
  | with_reducible refine Hj.r_gname ?_
  | with_reducible refine Hj.r_if ?_
  | with_reducible refine Hj.r_ret ?_
  | ((with_reducible show L2.tVar _ _ _ _); refine ⟨_, rfl, ?_⟩)
  | with_reducible refine Hj.r_c ?_
  | with_reducible refine Hj.r_cons ?_
  | with_reducible refine Hj.r_nil ?_
  | with_reducible refine Hj.r_op ?_
  | with_reducible refine Hj.r_test ?_
  | with_reducible refine Hj.r_B ?_
  | with_reducible refine Hj.r_cb ?_
  | with_reducible refine Hj.r_blV ?_
  | with_reducible refine Hj.r_and ?_
  | with_reducible refine Hj.r_or ?_
  | with_reducible refine Hj.r_not ?_
  | with_reducible refine Hj.r_call ?_
  | with_reducible refine Hj.r_tupK ?_
  | with_reducible refine Hj.r_lstK ?_
  | with_reducible refine Hj.r_eqS ?_
  | with_reducible refine Hj.r_eqI ?_
  | with_reducible refine Hj.r_neS ?_
  | with_reducible refine Hj.r_neI ?_
  | with_reducible refine Hj.r_isN ?_
  | with_reducible refine Hj.r_I0 ?_
  | with_reducible refine Hj.r_addI ?_
  | with_reducible refine Hj.r_intOf ?_
  | with_reducible refine Hj.r_mx ?_
  | with_reducible refine Hj.r_un ?_
  | with_reducible refine Hj.r_neg ?_
  | with_reducible refine Hj.r_drop ?_
  | with_reducible refine Hj.r_next ?_
  | with_reducible refine Hj.r_retN ?_
  | with_reducible refine Hj.r_sub ?_
  | with_reducible refine Hj.r_asg ?_
  | with_reducible refine Hj.r_bm ?_
  | with_reducible refine Hj.r_bm0 ?_
  | with_reducible refine Hj.r_meth ?_
  | with_reducible refine Hj.r_make ?_
  | with_reducible refine Hj.r_fldE ?_
  | with_reducible refine Hj.r_setF ?_
  | with_reducible refine Hj.r_sl ?_
  | with_reducible refine Hj.r_no ?_
  | with_reducible refine Hj.r_part ?_
  | with_reducible refine Hj.r_partI ?_
  | with_reducible refine Hj.r_m1 ?_
  | with_reducible refine Hj.r_strs ?_
  | with_reducible refine Hj.r_andV ?_
  | with_reducible refine Hj.r_orV ?_
  | with_reducible refine Hj.r_notV ?_
  | with_reducible refine Hj.r_for ?_
  | with_reducible refine Hj.r_rng ?_
  | with_reducible refine Hj.r_itL ?_
  | with_reducible refine Hj.r_itT ?_
  | with_reducible refine Hj.r_itS ?_
  | with_reducible refine Hj.r_itSE ?_))
local macro_rules | `(tactic| walk_at "cl") => `(tactic| ((try dsimp only [L2.cxOf, L2.Cx.nox]); simp only [L2.start, List.map, List.length, List.replicate, List.cons_append, List.nil_append, Nat.reduceAdd, Nat.reduceSub]))
local macro_rules | `(tactic| walk_at "len") => `(tactic| (intro vs H Q E h; first
  | (obtain ⟨_, ee, _⟩ := h; subst ee; rfl) | (obtain ⟨_, _, ee, _⟩ := h; subst ee; rfl) | (obtain ⟨_, _, _, ee, _⟩ := h; subst ee; rfl) | (obtain ⟨_, _, _, _, ee, _⟩ := h; subst ee; rfl) | (obtain ⟨_, _, _, _, _, ee, _⟩ := h; subst ee; rfl) | (obtain ⟨_, _, _, _, _, _, ee, _⟩ := h; subst ee; rfl)
  | (obtain ⟨_, _, _, _, _, _, _, ee, _⟩ := h; subst ee; rfl) | (obtain ⟨_, _, _, _, _, _, _, _, ee, _⟩ := h; subst ee; rfl) | (obtain ⟨_, _, _, _, _, _, _, _, _, ee, _⟩ := h; subst ee; rfl) | (obtain ⟨_, _, _, _, _, _, _, _, _, _, ee, _⟩ := h; subst ee; rfl)))
namespace Hj
open PySem PySem.Spec L2
section
variable {P : Program} {w : World} {K : PySem.W.Frag} {mg : Str → Option Value} {base : Heap}
/-! ### _law_stands -/
theorem az_codes : ("ABCDEFGHIJKLMNOPQRSTUVWXYZ" : Str).cps.toList = (List.range 26).map (· + 65) := by decide +kernel
theorem isVar_len {z : Str} (h : ¬ z.length = 1) : isVar z = false := by
  unfold isVar
  split
  · next c hc =>
    rw [← cps_len, hc] at h
    exact absurd rfl h
  · rfl
theorem one_sign {z : Str} (h : z.length = 1) : ∃ c, z = ⟨#[c]⟩ := by
  have e := cps_len z
  rw [h] at e
  obtain ⟨c, hc⟩ := List.length_eq_one_iff.mp e
  exact ⟨c, TL.ext_tl hc⟩
theorem isVar_one (c : Nat) : decide (c ∈ ("ABCDEFGHIJKLMNOPQRSTUVWXYZ" : Str).cps.toList) = isVar (⟨#[c]⟩ : Str) := by
  rw [az_codes]
  have e : isVar (⟨#[c]⟩ : Str) = (decide (65 ≤ c) && decide (c ≤ 90)) := rfl
  rw [e, Bool.eq_iff_iff]
  simp only [decide_eq_true_eq, List.mem_map, List.mem_range, Bool.and_eq_true]
  constructor
  · rintro ⟨x, h1, h2⟩
    omega
  · intro h
    exact ⟨c - 65, by omega, by omega⟩
def spStands (K : PySem.W.Frag) : Sp := fun vs H Q _ => ∃ (kd z : Str) (a : Addr) (sc : List Str), vs = [.str kd, .str z, .ref a] ∧ SqL K H a (sc.map V.str) ∧ z.length ≤ 100000 ∧ (kd = kTerm ∨ kd = kVar ∨ kd = kDo ∨ kd = kTest ∨ kd = kPlain) ∧ ∀ H' : Hp, Kp [] H H' → Q (.bl (stands kd z sc)) H'
theorem sc_law_stands : FnScope ["_law_kind", "_law_word", "_law_scope"] ["_law_kind", "_law_word", "_law_scope"] (defScope s_law_stands) := ⟨rfl, rfl, rfl, by decide +kernel, rfl, by decide +kernel, by decide +kernel⟩
theorem ok_law_stands {f : Addr} {fd : FuncData} (F : Fun K "_law_stands" "_law_stands" s_law_stands f fd) (T : Txt P K mg) (D_law_is_name : Dn P w K mg base CX0 1 "_law_is_name" ["_law_word"] spIsName) : FnOk P w K mg base CX0 2 f fd ["_law_kind", "_law_word", "_law_scope"] (spStands K) := by
  refine F.ok sc_law_stands ?_ (fun cdv A outer s H vs Q E hr0 h => ?_)
  · walk_at "len"
  obtain ⟨kd, z, a, sc, rfl, hx, hz, hk, q⟩ := h
  obtain ⟨⟨a1, a2, a3, a4⟩, ⟨b1, b2, b3, b4⟩, ⟨c1, c2, c3, c4⟩, ⟨d1, d2, d3, d4⟩, ⟨e1, e2, e3, e4⟩⟩ := kw_ne
  refine ⟨_, (pss_cons (ps_if (pt_cmpR op_eq (pv 0) pe_str (nomark _)) (pss_one (ps_ret (pe_or (pe_d D_law_is_name hr0 pass0 (pa_cons (pv 1) pa_nil)) (pe_one (pe_cmpR opIn (pv 1) (pv 2) (by rfl)))))) pss_nil) (pss_cons (ps_if (pt_cmpR op_eq (pv 0) pe_str (nomark _)) (pss_one (ps_ret (pe_and (pe_cmpR op_eq (pe_callB call_lenA (by rfl) T.zlen (by decide +kernel) (pa_cons (pv 1) pa_nil)) pe_int (nomark _)) (pe_one (pe_cmpR opIn (pv 1) pe_str (by rfl)))))) pss_nil) (pss_cons (ps_if (pt_cmpR op_eq (pv 0) pe_str (nomark _)) (pss_one (ps_ret (pe_cmpR op_eq (pv 1) pe_str (nomark _)))) pss_nil) (pss_one (ps_ret (pe_or (pe_cmpR opIn (pv 1) (pe_lst (pa_cons pe_str (pa_cons pe_str pa_nil))) (by rfl)) (pe_one (pe_and (pe_cmpR op_eq (pv 0) pe_str (nomark _)) (pe_one (pe_cmpR op_eq (pv 1) pe_str (nomark _))))))))))), ?_⟩
  walk_at "cl"
  walk_at "rk"
  rcases hk with rfl | rfl | rfl | hk
  · refine r_T (by decide +kernel) ?_
    walk_at "rk"
    refine ⟨z, rfl, hz, fun H1 k1 => ?_⟩
    walk_at "rk"
    have e : stands kTerm z sc = (isNm z || sc.contains z) := by unfold stands; rw [if_pos rfl]
    rw [e] at q
    refine r_b (fun c => ?_) (fun c => ?_)
    · walk_at "rk"
      rw [c] at q
      exact q _ k1
    · walk_at "rk"
      refine r_inL (k1.sqL hx (by simp)) rfl (flat_strs sc) ?_
      rw [c, Bool.false_or] at q
      rw [inV_strs]
      exact q _ k1
  · refine r_F (by decide +kernel) ?_
    walk_at "rk"
    refine r_T (by decide +kernel) ?_
    walk_at "rk"
    refine r_lenS (by omega) ?_
    walk_at "rk"
    have e : stands kVar z sc = isVar z := by unfold stands; rw [if_neg b1, if_pos rfl]
    rw [e] at q
    refine r_d (fun c => ?_) (fun c => ?_)
    · walk_at "rk"
      obtain ⟨c0, rfl⟩ := one_sign (z := z) (by omega)
      refine r_inS ?_
      rw [isVar_one]
      exact q _ .refl
    · walk_at "rk"
      rw [isVar_len (by omega)] at q
      exact q _ .refl
  · refine r_F (by decide +kernel) ?_
    walk_at "rk"
    refine r_F (by decide +kernel) ?_
    walk_at "rk"
    refine r_T (by decide +kernel) ?_
    walk_at "rk"
    have e : stands kDo z sc = decide (z = kDo) := by unfold stands; rw [if_neg c1, if_neg c2, if_pos rfl]
    rw [e] at q
    exact q _ .refl
  · have n1 : kd ≠ kTerm ∧ kd ≠ kVar ∧ kd ≠ kDo := by
      rcases hk with rfl | rfl
      · exact ⟨d1, d2, d3⟩
      · exact ⟨e1, e2, e3⟩
    refine r_F (decide_eq_false n1.1) ?_
    walk_at "rk"
    refine r_F (decide_eq_false n1.2.1) ?_
    walk_at "rk"
    refine r_F (decide_eq_false n1.2.2) ?_
    walk_at "rk"
    refine r_newL (by simp) fun p1 H1 m1 k1 e1 => ?_
    have e : stands kd z sc = (decide (z = kTog) || decide (z = kOpen) || (decide (kd = kTest) && decide (z = kNot))) := by unfold stands; rw [if_neg n1.1, if_neg n1.2.1, if_neg n1.2.2]
    rw [e] at q
    have e2 : inV (.str z) ([kTog, kOpen].map V.str) = (decide (z = kTog) || decide (z = kOpen)) := by
      rw [inV_strs, Bool.eq_iff_iff, List.contains_iff_mem]
      simp
    refine r_inL (xs := [kTog, kOpen].map V.str) (SqL.of e1) rfl (flat_strs _) ?_
    rw [e2]
    walk_at "rk"
    refine r_b (fun c => ?_) (fun c => ?_)
    · walk_at "rk"
      rw [c, Bool.true_or] at q
      exact q _ k1
    · walk_at "rk"
      rw [c, Bool.false_or] at q
      refine r_d (fun c5 => ?_) (fun c5 => ?_)
      · walk_at "rk"
        have c6 : kd = kTest := c5
        rw [decide_eq_true c6, Bool.true_and] at q
        exact q _ k1
      · walk_at "rk"
        have c6 : ¬ kd = kTest := c5
        rw [decide_eq_false c6, Bool.false_and] at q
        exact q _ k1
/-! ### _law_waiting -/
def spWaiting (K : PySem.W.Frag) : Sp := fun vs H Q _ => ∃ (a : Addr) (kd : Str) (r : List Str) (z : Str), vs = [.ref a, .str z] ∧ H a = some (.lst ((kd :: r).map V.str)) ∧ r.length ≤ 10 ∧ ∀ (p : Addr) (H' : Hp), H p = none → Kp [] H H' → H' p = some (.lst ((nextW (kd :: r) z).map V.str)) → Q (.ref p) H'
theorem nextW_cons (k : Str) (r : List Str) (w : Str) : nextW (k :: r) w = if k = kTest ∧ w = kNot then kPlain :: r else if k = kTest ∨ k = kPlain then kTerm :: kTerm :: r else r := rfl
theorem cut_tl (x : V) (xs : List V) : cutV (x :: xs) (some 1) none = xs := by
  unfold cutV
  rw [show (some (1 : Int)) = some ((1 : Nat) : Int) from rfl, HT.sIx_nat, HT.sIx_none]
  simp
theorem sc_law_waiting : FnScope ["_law_waiting_here", "_law_word"] ["_law_waiting_here", "_law_word"] (defScope s_law_waiting) := ⟨rfl, rfl, rfl, by decide +kernel, rfl, by decide +kernel, by decide +kernel⟩
theorem ok_law_waiting {f : Addr} {fd : FuncData} (F : Fun K "_law_waiting" "_law_waiting" s_law_waiting f fd) (T : Txt P K mg) : FnOk P w K mg base CX0 1 f fd ["_law_waiting_here", "_law_word"] (spWaiting K) := by
  refine F.ok sc_law_waiting ?_ (fun cdv A outer s H vs Q E hr0 h => ?_)
  · walk_at "len"
  obtain ⟨a, kd, r, z, rfl, hx, hr, q⟩ := h
  refine ⟨_, (pss_cons (ps_if (PW.pt (pw_and (pt_cmpR op_eq (pe_ix ix_seq (pv 0) pe_int (fun _ _ => rfl)) pe_str (nomark _)) (pw_and1 (pt_cmpR op_eq (pv 1) pe_str (nomark _))))) (pss_one (ps_ret (pe_op opAdd (pe_lst (pa_cons pe_str pa_nil)) (pe_slice slAny (pv 0) (po_some pe_int) po_none)))) pss_nil) (pss_cons (ps_if (pt_cmpR opIn (pe_ix ix_seq (pv 0) pe_int (fun _ _ => rfl)) (pe_lst (pa_cons pe_str (pa_cons pe_str pa_nil))) (by rfl)) (pss_one (ps_ret (pe_op opAdd (pe_lst (pa_cons pe_str (pa_cons pe_str pa_nil))) (pe_slice slAny (pv 0) (po_some pe_int) po_none)))) pss_nil) (pss_one (ps_ret (pe_slice slAny (pv 0) (po_some pe_int) po_none))))), ?_⟩
  have at0 : atI (List.map V.str (kd :: r)) 0 = some (V.str kd) := atI_nat (j := 0) rfl
  walk_at "cl"
  walk_at "rk"
  refine r_ixL (SqL.of hx) at0 ?_
  walk_at "rk"
  refine r_d (fun c1 => ?_) (fun c1 => ?_)
  · walk_at "rk"
    refine r_d (fun c2 => ?_) (fun c2 => ?_)
    · walk_at "rk"
      refine r_newL (by simp) fun p1 H1 n1 k1 e1 => ?_
      walk_at "rk"
      refine r_slLK (SqL.of (k1.get hx (by simp))) fun p2 H2 n2 k2 e2 => ?_
      rw [List.map_cons, cut_tl] at e2
      refine r_catK (us := [kPlain]) (vs := r) (k2.get e1 (by simp)) e2 (by simp; omega) fun p3 H3 n3 k3 e3 => ?_
      have e : nextW (kd :: r) z = [kPlain] ++ r := by
        rw [nextW_cons]
        rw [if_pos ⟨c1, c2⟩]
        rfl
      rw [e] at q
      exact q _ _ ((k1.trans k2).free0 n3) ((k1.trans k2).trans k3) e3
    · walk_at "rk"
      have e0 : nextW (kd :: r) z = if kd = kTest ∨ kd = kPlain then kTerm :: kTerm :: r else r := by
        rw [nextW_cons]
        rw [if_neg (fun h => c2 h.2)]
      refine r_ixL (SqL.of hx) at0 ?_
      walk_at "rk"
      refine r_newL (by simp) fun p1 H1 n1 k1 e1 => ?_
      refine r_inL (xs := [kTest, kPlain].map V.str) (SqL.of e1) rfl (flat_strs _) ?_
      walk_at "rk"
      rw [inV_strs]
      refine r_b (fun c3 => ?_) (fun c3 => ?_)
      · walk_at "rk"
        refine r_newL (by simp) fun p2 H2 n2 k2 e2 => ?_
        walk_at "rk"
        refine r_slLK (SqL.of ((k1.trans k2).get hx (by simp))) fun p3 H3 n3 k3 e3 => ?_
        rw [List.map_cons, cut_tl] at e3
        refine r_catK (us := [kTerm, kTerm]) (vs := r) (k3.get e2 (by simp)) e3 (by simp; omega) fun p4 H4 n4 k4 e4 => ?_
        rw [List.contains_iff_mem] at c3
        have c4 : kd = kTest ∨ kd = kPlain := by simpa using c3
        rw [e0, if_pos c4] at q
        exact q _ _ (((k1.trans k2).trans k3).free0 n4) (((k1.trans k2).trans k3).trans k4) e4
      · walk_at "rk"
        refine r_slLK (SqL.of (k1.get hx (by simp))) fun p3 H3 n3 k3 e3 => ?_
        rw [List.map_cons, cut_tl] at e3
        have c4 : ¬ (kd = kTest ∨ kd = kPlain) := by
          intro h
          have : [kTest, kPlain].contains kd = true := by rw [List.contains_iff_mem]; simpa using h
          rw [this] at c3
          cases c3
        rw [e0, if_neg c4] at q
        exact q _ _ (k1.free0 n3) (k1.trans k3) e3
  · walk_at "rk"
    have e0 : nextW (kd :: r) z = if kd = kTest ∨ kd = kPlain then kTerm :: kTerm :: r else r := by
      rw [nextW_cons]
      rw [if_neg (fun h => c1 h.1)]
    refine r_ixL (SqL.of hx) at0 ?_
    walk_at "rk"
    refine r_newL (by simp) fun p1 H1 n1 k1 e1 => ?_
    refine r_inL (xs := [kTest, kPlain].map V.str) (SqL.of e1) rfl (flat_strs _) ?_
    walk_at "rk"
    rw [inV_strs]
    refine r_b (fun c3 => ?_) (fun c3 => ?_)
    · walk_at "rk"
      refine r_newL (by simp) fun p2 H2 n2 k2 e2 => ?_
      walk_at "rk"
      refine r_slLK (SqL.of ((k1.trans k2).get hx (by simp))) fun p3 H3 n3 k3 e3 => ?_
      rw [List.map_cons, cut_tl] at e3
      refine r_catK (us := [kTerm, kTerm]) (vs := r) (k3.get e2 (by simp)) e3 (by simp; omega) fun p4 H4 n4 k4 e4 => ?_
      rw [List.contains_iff_mem] at c3
      have c4 : kd = kTest ∨ kd = kPlain := by simpa using c3
      rw [e0, if_pos c4] at q
      exact q _ _ (((k1.trans k2).trans k3).free0 n4) (((k1.trans k2).trans k3).trans k4) e4
    · walk_at "rk"
      refine r_slLK (SqL.of (k1.get hx (by simp))) fun p3 H3 n3 k3 e3 => ?_
      rw [List.map_cons, cut_tl] at e3
      have c4 : ¬ (kd = kTest ∨ kd = kPlain) := by
        intro h
        have : [kTest, kPlain].contains kd = true := by rw [List.contains_iff_mem]; simpa using h
        rw [this] at c3
        cases c3
      rw [e0, if_neg c4] at q
      exact q _ _ (k1.free0 n3) (k1.trans k3) e3
/-! ### _law_head -/
def headN (z : Str) : Int := if z = kClear then 0 else if z = kJoin then 1 else if z = kEach then 2 else 3
def heads : List Str := [kClear, kJoin, kEach, kIf, kWhile, kUntil]
def headKV : List (Key × V) := [(.inr kClear, .int 0), (.inr kJoin, .int 1), (.inr kEach, .int 2), (.inr kIf, .int 3), (.inr kWhile, .int 3), (.inr kUntil, .int 3)]
theorem head_get : ∀ z ∈ heads, some (V.int (headN z)) = valV (mergeK [] headKV) (.inr z) := by decide +kernel
def spHead : Sp := fun vs H Q _ => ∃ z : Str, vs = [.str z] ∧ z ∈ heads ∧ ∀ H' : Hp, Kp [] H H' → Q (.int (headN z)) H'
theorem sc_law_head : FnScope ["_law_word"] ["_law_word"] (defScope s_law_head) := ⟨rfl, rfl, rfl, by decide +kernel, rfl, by decide +kernel, by decide +kernel⟩
theorem ok_law_head {f : Addr} {fd : FuncData} (F : Fun K "_law_head" "_law_head" s_law_head f fd) (T : Txt P K mg) : FnOk P w K mg base CX0 1 f fd ["_law_word"] spHead := by
  refine F.ok sc_law_head ?_ (fun cdv A outer s H vs Q E hr0 h => ?_)
  · walk_at "len"
  obtain ⟨z, rfl, hz, q⟩ := h
  refine ⟨_, (pss_one (ps_ret (pe_dget (hu_of hr0) (pe_disp (pps_cons pe_str pe_int (pps_cons pe_str pe_int (pps_cons pe_str pe_int (pps_cons pe_str pe_int (pps_cons pe_str pe_int (pps_cons pe_str pe_int pps_nil)))))) (by rfl) (by rfl) (fun z => by cases z) (by decide)) (pv 0) (fun _ _ => rfl)))), ?_⟩
  walk_at "cl"
  walk_at "rk"
  intro p np
  refine ⟨upd_same, headKV, rfl, by decide, ?_⟩
  refine ⟨_, rfl, p, .int (headN z), rfl, .inl ⟨mergeK [] headKV, .inr z, .inl upd_same, rfl, head_get z hz⟩, q _ ((Kp.new np).putN np)⟩
end
end Hj
end
section
set_option Elab.async false
set_option linter.all false
set_option maxRecDepth 100000
set_option maxHeartbeats 8000000
local macro_rules | `(tactic| walk_at "rd") => `(tactic| repeat (first
  | with_reducible refine Hj.r_seq ?_
  | with_reducible refine Hj.r_nx ?_
  | with_reducible refine Hj.r_rt ?_
  | with_reducible refine L2.iteT ?_
  | with_reducible refine L2.iteF ?_
  | with_reducible refine Hj.r_set ?_
  | with_reducible refine Hj.r_gname ?_
  | with_reducible refine Hj.r_if ?_
  | with_reducible refine Hj.r_ret ?_
  | ((with_reducible show L2.tVar _ _ _ _); refine ⟨_, rfl, ?_⟩)
  | with_reducible refine Hj.r_c ?_
  | with_reducible refine Hj.r_cons ?_
  | with_reducible refine Hj.r_nil ?_
  | with_reducible refine Hj.r_op ?_
  | with_reducible refine Hj.r_test ?_
  | with_reducible refine Hj.r_B ?_
  | with_reducible refine Hj.r_cb ?_
  | with_reducible refine Hj.r_blV ?_
  | with_reducible refine Hj.r_and ?_
  | with_reducible refine Hj.r_or ?_
  | with_reducible refine Hj.r_not ?_
  | with_reducible refine Hj.r_call ?_
  | with_reducible refine Hj.r_tup ?_
  | with_reducible refine Hj.r_lst ?_
  | with_reducible refine Hj.r_eqS ?_
  | with_reducible refine Hj.r_eqI ?_
  | with_reducible refine Hj.r_neS ?_
  | with_reducible refine Hj.r_neI ?_
  | with_reducible refine Hj.r_isN ?_
  | with_reducible refine Hj.r_I0 ?_
  | with_reducible refine Hj.r_addI ?_
  | with_reducible refine Hj.r_intOf ?_
  | with_reducible refine Hj.r_mx ?_
  | with_reducible refine Hj.r_un ?_
  | with_reducible refine Hj.r_neg ?_
  | with_reducible refine Hj.r_drop ?_
  | with_reducible refine Hj.r_next ?_
  | with_reducible refine Hj.r_retN ?_
  | with_reducible refine Hj.r_sub ?_
  | with_reducible refine Hj.r_asg ?_
  | with_reducible refine Hj.r_bm ?_
  | with_reducible refine Hj.r_bm0 ?_
  | with_reducible refine Hj.r_meth ?_
  | with_reducible refine Hj.r_make ?_
  | with_reducible refine Hj.r_fldE ?_
  | with_reducible refine Hj.r_setF ?_
  | with_reducible refine Hj.r_sl ?_
  | with_reducible refine Hj.r_no ?_
  | with_reducible refine Hj.r_part ?_
  | with_reducible refine Hj.r_partI ?_
  | with_reducible refine Hj.r_m1 ?_
  | with_reducible refine Hj.r_strs ?_
  | with_reducible refine Hj.r_andV ?_
  | with_reducible refine Hj.r_orV ?_
  | with_reducible refine Hj.r_notV ?_
  | with_reducible refine Hj.r_for ?_
  | with_reducible refine Hj.r_rng ?_
  | with_reducible refine Hj.r_itL ?_
  | with_reducible refine Hj.r_itT ?_
  | with_reducible refine Hj.r_itS ?_
  | with_reducible refine Hj.r_itSE ?_))
local macro_rules | `(tactic| walk_at "rk") => `(tactic| repeat (first
  | with_reducible refine Hj.r_seq ?_
  | with_reducible refine Hj.r_nx ?_
  | with_reducible refine Hj.r_rt ?_
  | with_reducible refine L2.iteT ?_
  | with_reducible refine L2.iteF ?_
  | with_reducible refine Hj.r_set ?_
  | with_reducible refine Hj.r_gname ?_
  | with_reducible refine Hj.r_if ?_
  | with_reducible refine Hj.r_ret ?_
  | ((with_reducible show L2.tVar _ _ _ _); refine ⟨_, rfl, ?_⟩)
  | with_reducible refine Hj.r_c ?_
  | with_reducible refine Hj.r_cons ?_
  | with_reducible refine Hj.r_nil ?_
  | with_reducible refine Hj.r_op ?_
  | with_reducible refine Hj.r_test ?_
  | with_reducible refine Hj.r_B ?_
  | with_reducible refine Hj.r_cb ?_
  | with_reducible refine Hj.r_blV ?_
  | with_reducible refine Hj.r_and ?_
  | with_reducible refine Hj.r_or ?_
  | with_reducible refine Hj.r_not ?_
  | with_reducible refine Hj.r_call ?_
  | with_reducible refine Hj.r_tupK ?_
  | with_reducible refine Hj.r_lstK ?_
  | with_reducible refine Hj.r_eqS ?_
  | with_reducible refine Hj.r_eqI ?_
  | with_reducible refine Hj.r_neS ?_
  | with_reducible refine Hj.r_neI ?_
  | with_reducible refine Hj.r_isN ?_
  | with_reducible refine Hj.r_I0 ?_
  | with_reducible refine Hj.r_addI ?_
  | with_reducible refine Hj.r_intOf ?_
  | with_reducible refine Hj.r_mx ?_
  | with_reducible refine Hj.r_un ?_
  | with_reducible refine Hj.r_neg ?_
  | with_reducible refine Hj.r_drop ?_
  | with_reducible refine Hj.r_next ?_
  | with_reducible refine Hj.r_retN ?_
  | with_reducible refine Hj.r_sub ?_
  | with_reducible refine Hj.r_asg ?_
  | with_reducible refine Hj.r_bm ?_
  | with_reducible refine Hj.r_bm0 ?_
  | with_reducible refine Hj.r_meth ?_
  | with_reducible refine Hj.r_make ?_
  | with_reducible refine Hj.r_fldE ?_
  | with_reducible refine Hj.r_setF ?_
  | with_reducible refine Hj.r_sl ?_
  | with_reducible refine Hj.r_no ?_
  | with_reducible refine Hj.r_part ?_
  | with_reducible refine Hj.r_partI ?_
  | with_reducible refine Hj.r_m1 ?_
  | with_reducible refine Hj.r_strs ?_
  | with_reducible refine Hj.r_andV ?_
  | with_reducible refine Hj.r_orV ?_
  | with_reducible refine Hj.r_notV ?_
  | with_reducible refine Hj.r_for ?_
  | with_reducible refine Hj.r_rng ?_
  | with_reducible refine Hj.r_itL ?_
  | with_reducible refine Hj.r_itT ?_
  | with_reducible refine Hj.r_itS ?_
  | with_reducible refine Hj.r_itSE ?_))
local macro_rules | `(tactic| walk_at "cl") => `(tactic| ((try dsimp only [L2.cxOf, L2.Cx.nox]); simp only [L2.start, List.map, List.length, List.replicate, List.cons_append, List.nil_append, Nat.reduceAdd, Nat.reduceSub]))
local macro_rules | `(tactic| walk_at "len") => `(tactic| (intro vs H Q E h; first
  | (obtain ⟨_, ee, _⟩ := h; subst ee; rfl) | (obtain ⟨_, _, ee, _⟩ := h; subst ee; rfl) | (obtain ⟨_, _, _, ee, _⟩ := h; subst ee; rfl) | (obtain ⟨_, _, _, _, ee, _⟩ := h; subst ee; rfl) | (obtain ⟨_, _, _, _, _, ee, _⟩ := h; subst ee; rfl) | (obtain ⟨_, _, _, _, _, _, ee, _⟩ := h; subst ee; rfl)
  | (obtain ⟨_, _, _, _, _, _, _, ee, _⟩ := h; subst ee; rfl) | (obtain ⟨_, _, _, _, _, _, _, _, ee, _⟩ := h; subst ee; rfl) | (obtain ⟨_, _, _, _, _, _, _, _, _, ee, _⟩ := h; subst ee; rfl) | (obtain ⟨_, _, _, _, _, _, _, _, _, _, ee, _⟩ := h; subst ee; rfl)))
namespace Hj
open PySem PySem.Spec L2
section
variable {P : Program} {w : World} {K : PySem.W.Frag} {mg : Str → Option Value} {base : Heap}
/-! ### the second reader's frames -/
def HdR (h : Hd) (k : Str) (ws : List Str) : Prop := (h = .root ∧ k = "" ∧ ws = []) ∨ HdW h k ws
/-- what lies in a frame; fo: what is its own -/
structure FrAt (K : PySem.W.Frag) (H : Hp) (a : Addr) (f : Fr) (fo : List Addr) : Prop where
  ex : ∃ (k : Str) (ws : List Str) (pw pc : Addr) (cs : List V) (vo : V), H a = some (.lst [.str k, .ref pw, .ref pc, vo]) ∧ H pw = some (.lst (ws.map V.str)) ∧ H pc = some (.lst cs) ∧ DpAll K H cs (dL f.cur) ∧ HdR f.hd k ws ∧
    ((f.oth = none ∧ vo = .non ∧ fo = [a, pw, pc]) ∨ ∃ b pb bs, f.oth = some b ∧ vo = .ref pb ∧ H pb = some (.lst bs) ∧ DpAll K H bs (dL b) ∧ fo = [a, pw, pc, pb])
theorem FrAt.keep {S : List Addr} {H H' : Hp} {a : Addr} {f : Fr} {fo : List Addr} (h : FrAt K H a f fo) (k : Kp S H H') (hs : ∀ x ∈ fo, x ∉ S) : FrAt K H' a f fo := by
  obtain ⟨kk, ws, pw, pc, cs, vo, h1, h2, h3, h4, h5, h6⟩ := h.ex
  rcases h6 with ⟨a1, a2, rfl⟩ | ⟨b, pb, bs, a1, a2, a3, a4, rfl⟩
  · exact ⟨kk, ws, pw, pc, cs, vo, k.get h1 (hs _ (by simp)), k.get h2 (hs _ (by simp)), k.get h3 (hs _ (by simp)), dps_keep k _ _ (flat_L _) h4, h5, .inl ⟨a1, a2, rfl⟩⟩
  · exact ⟨kk, ws, pw, pc, cs, vo, k.get h1 (hs _ (by simp)), k.get h2 (hs _ (by simp)), k.get h3 (hs _ (by simp)), dps_keep k _ _ (flat_L _) h4, h5, .inr ⟨b, pb, bs, a1, a2, k.get a3 (hs _ (by simp)), dps_keep k _ _ (flat_L _) a4, rfl⟩⟩
theorem FrAt.keep0 {H H' : Hp} {a : Addr} {f : Fr} {fo : List Addr} (h : FrAt K H a f fo) (k : Kp [] H H') : FrAt K H' a f fo := h.keep k fun _ _ z => by cases z
/-! ### _law_closed_statement -/
def spClosed (K : PySem.W.Frag) : Sp := fun vs H Q _ => ∃ (a : Addr) (f : Fr) (fo : List Addr) (sc : List Str), vs = [.ref a] ∧ FrAt K H a f fo ∧ f.hd ≠ .root ∧ okHd sc f.hd ∧ (f.oth ≠ none → isIf f.hd) ∧ ∀ (v : V) (H' : Hp), Dp K H' v (dS (clo f)) → Kp [] H H' → Q v H'
theorem sc_law_closed_statement : FnScope ["_law_frame", "_law_test_read"] ["_law_frame"] (defScope s_law_closed_statement) := ⟨rfl, rfl, rfl, by decide +kernel, rfl, by decide +kernel, by decide +kernel⟩
theorem ok_law_closed_statement {f : Addr} {fd : FuncData} (F : Fun K "_law_closed_statement" "_law_closed_statement" s_law_closed_statement f fd) (T : Txt P K mg) : FnOk P w K mg base CX0 1 f fd ["_law_frame"] (spClosed K) := by
  refine F.ok sc_law_closed_statement ?_ (fun cdv A outer s H vs Q E hr0 h => ?_)
  · walk_at "len"
  obtain ⟨a, fr, fo, sc, rfl, fa, hnr, hok, hot, q⟩ := h
  obtain ⟨k, ws, pw, pc, cs, vo, h1, h2, h3, h4, h5, h6⟩ := fa.ex
  replace h5 : HdW fr.hd k ws := by
    rcases h5 with h5 | h5
    · exact absurd h5.1 hnr
    · exact h5
  obtain ⟨hd, cur, oth⟩ := fr
  simp only at h4 h5 h6 hok hot hnr
  refine ⟨_, (pss_cons (ps_if (pt_cmpR op_eq (pe_ix ix_seq (pv 0) pe_int (fun _ _ => rfl)) pe_str (nomark _)) (pss_one (ps_ret (pe_tup (pa_cons pe_str (pa_cons (pe_ix ix_seq (pe_ix ix_seq (pv 0) pe_int (fun _ _ => rfl)) pe_int (fun _ _ => rfl)) (pa_cons (pe_callTy call_tupOf (by rfl) T.ztuple (by decide +kernel) (pa_cons (pe_ix ix_seq (pv 0) pe_int (fun _ _ => rfl)) pa_nil)) pa_nil)))))) pss_nil) (pss_cons (ps_set (i := 1) sc_law_closed_statement.nd rfl (Or.inl rfl) (pe_callTy call_tupOf (by rfl) T.ztuple (by decide +kernel) (pa_cons (pe_ix ix_seq (pv 0) pe_int (fun _ _ => rfl)) pa_nil))) (Evl.pss_cut (ps_if (pt_cmpR op_eq (pe_ix ix_seq (pv 1) pe_int (fun _ _ => rfl)) pe_str (nomark _)) (pss_one (ps_set (i := 1) sc_law_closed_statement.nd rfl (Or.inl rfl) (pe_tup (pa_cons pe_str (pa_cons (pe_slice slAny (pv 1) (po_some pe_int) po_none) pa_nil))))) pss_nil) (pss_cons (ps_if (pt_cmpR op_eq (pe_ix ix_seq (pv 0) pe_int (fun _ _ => rfl)) pe_str (nomark _)) (pss_cons (ps_if (pt_cmpR op_isNon (pe_ix ix_seq (pv 0) pe_int (fun _ _ => rfl)) pe_non (nomark _)) (pss_one (ps_ret (pe_tup (pa_cons pe_str (pa_cons (pv 1) (pa_cons (pe_callTy call_tupOf (by rfl) T.ztuple (by decide +kernel) (pa_cons (pe_ix ix_seq (pv 0) pe_int (fun _ _ => rfl)) pa_nil)) (pa_cons (pe_tup pa_nil) pa_nil))))))) pss_nil) (pss_one (ps_ret (pe_tup (pa_cons pe_str (pa_cons (pv 1) (pa_cons (pe_callTy call_tupOf (by rfl) T.ztuple (by decide +kernel) (pa_cons (pe_ix ix_seq (pv 0) pe_int (fun _ _ => rfl)) pa_nil)) (pa_cons (pe_callTy call_tupOf (by rfl) T.ztuple (by decide +kernel) (pa_cons (pe_ix ix_seq (pv 0) pe_int (fun _ _ => rfl)) pa_nil)) pa_nil)))))))) pss_nil) (pss_cons (ps_if (PW.pt (pw_and (pt_cmpR op_eq (pe_ix ix_seq (pv 0) pe_int (fun _ _ => rfl)) pe_str (nomark _)) (pw_and1 (pt_cmpR op_eq (pe_ix ix_seq (pv 1) pe_int (fun _ _ => rfl)) pe_str (nomark _))))) (pss_one (ps_ret (pe_tup (pa_cons pe_str (pa_cons (pe_ix ix_seq (pv 1) pe_int (fun _ _ => rfl)) (pa_cons (pe_callTy call_tupOf (by rfl) T.ztuple (by decide +kernel) (pa_cons (pe_ix ix_seq (pv 0) pe_int (fun _ _ => rfl)) pa_nil)) pa_nil)))))) pss_nil) (pss_cons (ps_if (pt_cmpR op_eq (pe_ix ix_seq (pv 0) pe_int (fun _ _ => rfl)) pe_str (nomark _)) (pss_one (ps_ret (pe_tup (pa_cons pe_str (pa_cons (pe_tup (pa_cons pe_str (pa_cons (pv 1) pa_nil))) (pa_cons (pe_callTy call_tupOf (by rfl) T.ztuple (by decide +kernel) (pa_cons (pe_ix ix_seq (pv 0) pe_int (fun _ _ => rfl)) pa_nil)) pa_nil)))))) pss_nil) (pss_one (ps_ret (pe_tup (pa_cons pe_str (pa_cons (pv 1) (pa_cons (pe_callTy call_tupOf (by rfl) T.ztuple (by decide +kernel) (pa_cons (pe_ix ix_seq (pv 0) pe_int (fun _ _ => rfl)) pa_nil)) pa_nil)))))))))))), ?_⟩
  have at0 : atI [V.str k, .ref pw, .ref pc, vo] 0 = some (V.str k) := atI_nat (j := 0) rfl
  have at1 : atI [V.str k, .ref pw, .ref pc, vo] 1 = some (.ref pw) := atI_nat (j := 1) rfl
  have at2 : atI [V.str k, .ref pw, .ref pc, vo] 2 = some (.ref pc) := atI_nat (j := 2) rfl
  have at3 : atI [V.str k, .ref pw, .ref pc, vo] 3 = some vo := atI_nat (j := 3) rfl
  walk_at "cl"
  walk_at "rk"
  refine r_ixL (SqL.of h1) at0 ?_
  walk_at "rk"
  cases h5 with
  | each =>
    next v =>
    have ho : oth = none := by
      cases oth with
      | none => rfl
      | some b => exact absurd (hot (by simp)) (by simp [isIf])
    subst ho
    refine r_T (by decide +kernel) ?_
    walk_at "rk"
    refine r_ixL (SqL.of h1) at1 ?_
    walk_at "rk"
    refine r_ixL (v := .str v) (SqL.of h2) (atI_nat (j := 0) rfl) ?_
    walk_at "rk"
    refine r_ixL (SqL.of h1) at2 ?_
    walk_at "rk"
    refine r_tupOfK (SqL.of h3) fun p1 H1 n1 k1 e1 => ?_
    walk_at "rk"
    refine r_newT (by simp) fun p2 H2 n2 k2 e2 => ?_
    refine q _ _ ?_ (k1.trans k2)
    exact dp_tup e2 (.cons (.str _) (.cons (.str _) (.cons (dp_tup (k2.tup e1) (dps_keep (k1.trans k2) _ _ (flat_L _) h4)) .nil)))
  | ife =>
    next t =>
    have ht : okTst sc t := hok
    refine r_F (by decide +kernel) ?_
    walk_at "rk"
    refine r_ixL (SqL.of h1) at1 ?_
    walk_at "rk"
    refine r_tupOfK (SqL.of h2) fun pz Hz nz kz ez => ?_
    walk_at "rk"
    refine r_cut (fun σ' H' => ∃ pt, σ' = [some (.ref a), some (.ref pt)] ∧ Dp K H' (.ref pt) (dT t) ∧ Kp [] H H') ?_ ?_
    · cases hn : t.neg with
      | false =>
        have e : wT t = [t.w, t.x, t.y] := by simp [wT, hn]
        rw [e] at ez
        walk_at "rk"
        refine r_ixT (v := .str t.w) (SqT.of ez) (atI_nat (j := 0) rfl) ?_
        walk_at "rk"
        refine r_F (decide_eq_false (tog_w ht)) ?_
        walk_at "rk"
        exact ⟨pz, rfl, dT_plain hn (SqT.of ez), kz⟩
      | true =>
        have e : wT t = [kNot, t.w, t.x, t.y] := by simp [wT, hn]
        rw [e] at ez
        walk_at "rk"
        refine r_ixT (v := .str kNot) (SqT.of ez) (atI_nat (j := 0) rfl) ?_
        walk_at "rk"
        refine r_T (by decide +kernel) ?_
        walk_at "rk"
        refine r_slT (SqT.of ez) (fun h => absurd (show HT.sIx 4 0 (some 1) = 0 from h.1) (by decide)) fun py ny => ?_
        have ky : Kp [] Hz (upd Hz py (.tup (cutV ([kNot, t.w, t.x, t.y].map V.str) (some 1) none))) := Kp.new ny
        have ey : (upd Hz py (.tup (cutV ([kNot, t.w, t.x, t.y].map V.str) (some 1) none))) py = some (.tup ([t.w, t.x, t.y].map V.str)) := by rw [upd_same, List.map_cons, cut_tl]
        walk_at "rk"
        refine r_newT (by simp) fun px Hx nx kx ex => ?_
        exact ⟨px, rfl, dT_not hn (SqT.of ex) (SqT.of (kx.tup ey)), (kz.trans ky).trans kx⟩
    rintro σ' Ht ⟨pt, rfl, dt, kt⟩
    walk_at "rk"
    refine r_ixL (SqL.of (kt.get h1 (by simp))) at0 ?_
    walk_at "rk"
    refine r_T (by decide +kernel) ?_
    walk_at "rk"
    refine r_ixL (SqL.of (kt.get h1 (by simp))) at3 ?_
    walk_at "rk"
    rcases h6 with ⟨a1, rfl, _⟩ | ⟨b, pb, bs, a1, rfl, a3, a4, _⟩
    · subst a1
      refine r_T (by decide +kernel) ?_
      walk_at "rk"
      refine r_ixL (SqL.of (kt.get h1 (by simp))) at2 ?_
      walk_at "rk"
      refine r_tupOfK (SqL.of (kt.get h3 (by simp))) fun p1 H1 n1 k1 e1 => ?_
      walk_at "rk"
      refine r_newT (by simp) fun p2 H2 n2 k2 e2 => ?_
      walk_at "rk"
      refine r_newT (by simp) fun p3 H3 n3 k3 e3 => ?_
      have K3 := (k1.trans k2).trans k3
      refine q _ _ ?_ (kt.trans K3)
      exact dp_tup e3 (.cons (.str _) (.cons (dp_keep K3 _ _ (flat_T t) dt) (.cons (dp_tup ((k2.trans k3).tup e1) (dps_keep (kt.trans K3) _ _ (flat_L _) h4)) (.cons (dp_tup (k3.tup e2) .nil) .nil))))
    · subst a1
      refine r_F (decide_eq_false (by simp)) ?_
      walk_at "rk"
      refine r_ixL (SqL.of (kt.get h1 (by simp))) at3 ?_
      walk_at "rk"
      refine r_tupOfK (SqL.of (kt.get a3 (by simp))) fun p1 H1 n1 k1 e1 => ?_
      walk_at "rk"
      refine r_ixL (SqL.of ((kt.trans k1).get h1 (by simp))) at2 ?_
      walk_at "rk"
      refine r_tupOfK (SqL.of ((kt.trans k1).get h3 (by simp))) fun p2 H2 n2 k2 e2 => ?_
      walk_at "rk"
      refine r_newT (by simp) fun p3 H3 n3 k3 e3 => ?_
      have K3 := (k1.trans k2).trans k3
      refine q _ _ ?_ (kt.trans K3)
      exact dp_tup e3 (.cons (.str _) (.cons (dp_keep K3 _ _ (flat_T t) dt) (.cons (dp_tup ((k2.trans k3).tup e1) (dps_keep (kt.trans K3) _ _ (flat_L _) a4)) (.cons (dp_tup (k3.tup e2) (dps_keep (kt.trans K3) _ _ (flat_L _) h4)) .nil))))
  | whl =>
    next t =>
    have ht : okTst sc t := hok
    have ho : oth = none := by
      cases oth with
      | none => rfl
      | some b => exact absurd (hot (by simp)) (by simp [isIf])
    subst ho
    refine r_F (by decide +kernel) ?_
    walk_at "rk"
    refine r_ixL (SqL.of h1) at1 ?_
    walk_at "rk"
    refine r_tupOfK (SqL.of h2) fun pz Hz nz kz ez => ?_
    walk_at "rk"
    refine r_cut (fun σ' H' => ∃ pt, σ' = [some (.ref a), some (.ref pt)] ∧ Dp K H' (.ref pt) (dT t) ∧ Kp [] H H') ?_ ?_
    · cases hn : t.neg with
      | false =>
        have e : wT t = [t.w, t.x, t.y] := by simp [wT, hn]
        rw [e] at ez
        walk_at "rk"
        refine r_ixT (v := .str t.w) (SqT.of ez) (atI_nat (j := 0) rfl) ?_
        walk_at "rk"
        refine r_F (decide_eq_false (tog_w ht)) ?_
        walk_at "rk"
        exact ⟨pz, rfl, dT_plain hn (SqT.of ez), kz⟩
      | true =>
        have e : wT t = [kNot, t.w, t.x, t.y] := by simp [wT, hn]
        rw [e] at ez
        walk_at "rk"
        refine r_ixT (v := .str kNot) (SqT.of ez) (atI_nat (j := 0) rfl) ?_
        walk_at "rk"
        refine r_T (by decide +kernel) ?_
        walk_at "rk"
        refine r_slT (SqT.of ez) (fun h => absurd (show HT.sIx 4 0 (some 1) = 0 from h.1) (by decide)) fun py ny => ?_
        have ky : Kp [] Hz (upd Hz py (.tup (cutV ([kNot, t.w, t.x, t.y].map V.str) (some 1) none))) := Kp.new ny
        have ey : (upd Hz py (.tup (cutV ([kNot, t.w, t.x, t.y].map V.str) (some 1) none))) py = some (.tup ([t.w, t.x, t.y].map V.str)) := by rw [upd_same, List.map_cons, cut_tl]
        walk_at "rk"
        refine r_newT (by simp) fun px Hx nx kx ex => ?_
        exact ⟨px, rfl, dT_not hn (SqT.of ex) (SqT.of (kx.tup ey)), (kz.trans ky).trans kx⟩
    rintro σ' Ht ⟨pt, rfl, dt, kt⟩
    walk_at "rk"
    refine r_ixL (SqL.of (kt.get h1 (by simp))) at0 ?_
    walk_at "rk"
    refine r_F (by decide +kernel) ?_
    walk_at "rk"
    refine r_ixL (SqL.of (kt.get h1 (by simp))) at0 ?_
    walk_at "rk"
    refine r_F (by decide +kernel) ?_
    walk_at "rk"
    refine r_ixL (SqL.of (kt.get h1 (by simp))) at0 ?_
    walk_at "rk"
    refine r_F (by decide +kernel) ?_
    walk_at "rk"
    refine r_ixL (SqL.of (kt.get h1 (by simp))) at2 ?_
    walk_at "rk"
    refine r_tupOfK (SqL.of (kt.get h3 (by simp))) fun p1 H1 n1 k1 e1 => ?_
    walk_at "rk"
    refine r_newT (by simp) fun p3 H3 n3 k3 e3 => ?_
    have K3 := k1.trans k3
    refine q _ _ ?_ (kt.trans K3)
    exact dp_tup e3 (.cons (.str _) (.cons (dp_keep K3 _ _ (flat_T t) dt) (.cons (dp_tup (k3.tup e1) (dps_keep (kt.trans K3) _ _ (flat_L _) h4)) .nil)))
  | unt =>
    next t =>
    have ht : okTst sc t := hok
    have ho : oth = none := by
      cases oth with
      | none => rfl
      | some b => exact absurd (hot (by simp)) (by simp [isIf])
    subst ho
    refine r_F (by decide +kernel) ?_
    walk_at "rk"
    refine r_ixL (SqL.of h1) at1 ?_
    walk_at "rk"
    refine r_tupOfK (SqL.of h2) fun pz Hz nz kz ez => ?_
    walk_at "rk"
    refine r_cut (fun σ' H' => ∃ pt, σ' = [some (.ref a), some (.ref pt)] ∧ Dp K H' (.ref pt) (dT t) ∧ Kp [] H H') ?_ ?_
    · cases hn : t.neg with
      | false =>
        have e : wT t = [t.w, t.x, t.y] := by simp [wT, hn]
        rw [e] at ez
        walk_at "rk"
        refine r_ixT (v := .str t.w) (SqT.of ez) (atI_nat (j := 0) rfl) ?_
        walk_at "rk"
        refine r_F (decide_eq_false (tog_w ht)) ?_
        walk_at "rk"
        exact ⟨pz, rfl, dT_plain hn (SqT.of ez), kz⟩
      | true =>
        have e : wT t = [kNot, t.w, t.x, t.y] := by simp [wT, hn]
        rw [e] at ez
        walk_at "rk"
        refine r_ixT (v := .str kNot) (SqT.of ez) (atI_nat (j := 0) rfl) ?_
        walk_at "rk"
        refine r_T (by decide +kernel) ?_
        walk_at "rk"
        refine r_slT (SqT.of ez) (fun h => absurd (show HT.sIx 4 0 (some 1) = 0 from h.1) (by decide)) fun py ny => ?_
        have ky : Kp [] Hz (upd Hz py (.tup (cutV ([kNot, t.w, t.x, t.y].map V.str) (some 1) none))) := Kp.new ny
        have ey : (upd Hz py (.tup (cutV ([kNot, t.w, t.x, t.y].map V.str) (some 1) none))) py = some (.tup ([t.w, t.x, t.y].map V.str)) := by rw [upd_same, List.map_cons, cut_tl]
        walk_at "rk"
        refine r_newT (by simp) fun px Hx nx kx ex => ?_
        exact ⟨px, rfl, dT_not hn (SqT.of ex) (SqT.of (kx.tup ey)), (kz.trans ky).trans kx⟩
    rintro σ' Ht ⟨pt, rfl, dt, kt⟩
    walk_at "rk"
    refine r_ixL (SqL.of (kt.get h1 (by simp))) at0 ?_
    walk_at "rk"
    refine r_F (by decide +kernel) ?_
    walk_at "rk"
    refine r_ixL (SqL.of (kt.get h1 (by simp))) at0 ?_
    walk_at "rk"
    refine r_T (by decide +kernel) ?_
    walk_at "rk"
    obtain ⟨p0, ep0, ⟨hn, g1⟩ | ⟨hn, p9, g1, g2⟩⟩ := dT_view dt
    · obtain rfl := V.ref.inj ep0
      refine r_ixT g1 (atI_nat (j := 0) rfl) ?_
      walk_at "rk"
      refine r_F (decide_eq_false (tog_w ht)) ?_
      walk_at "rk"
      refine r_ixL (SqL.of (kt.get h1 (by simp))) at0 ?_
      walk_at "rk"
      refine r_T (by decide +kernel) ?_
      walk_at "rk"
      refine r_newT (by simp) fun p0 H0 n0 k0 e0 => ?_
      walk_at "rk"
      refine r_ixL (SqL.of ((kt.trans k0).get h1 (by simp))) at2 ?_
      walk_at "rk"
      refine r_tupOfK (SqL.of ((kt.trans k0).get h3 (by simp))) fun p1 H1 n1 k1 e1 => ?_
      walk_at "rk"
      refine r_newT (by simp) fun p3 H3 n3 k3 e3 => ?_
      have K3 := (k0.trans k1).trans k3
      refine q _ _ ?_ (kt.trans K3)
      refine dp_tup e3 (.cons (.str _) (.cons ?_ (.cons (dp_tup (k3.tup e1) (dps_keep (kt.trans K3) _ _ (flat_L _) h4)) .nil)))
      exact dT_not (t := opp t) (by simp [opp, hn]) (SqT.of ((k1.trans k3).tup e0)) (K3.sqT g1)
    · obtain rfl := V.ref.inj ep0
      refine r_ixT g1 (atI_nat (j := 0) rfl) ?_
      walk_at "rk"
      refine r_T (by decide +kernel) ?_
      walk_at "rk"
      refine r_ixT g1 (atI_nat (j := 1) rfl) ?_
      walk_at "rk"
      refine r_ixL (SqL.of (kt.get h1 (by simp))) at2 ?_
      walk_at "rk"
      refine r_tupOfK (SqL.of (kt.get h3 (by simp))) fun p1 H1 n1 k1 e1 => ?_
      walk_at "rk"
      refine r_newT (by simp) fun p3 H3 n3 k3 e3 => ?_
      have K3 := k1.trans k3
      refine q _ _ ?_ (kt.trans K3)
      refine dp_tup e3 (.cons (.str _) (.cons ?_ (.cons (dp_tup (k3.tup e1) (dps_keep (kt.trans K3) _ _ (flat_L _) h4)) .nil)))
      exact dT_plain (t := opp t) (by simp [opp, hn]) (K3.sqT g2)
end
end Hj
end
section
set_option Elab.async false
set_option linter.all false
set_option maxRecDepth 100000
set_option maxHeartbeats 16000000
local macro_rules | `(tactic| walk_at "rd") => `(tactic| repeat (first
  | with_reducible refine Hj.r_seq ?_
  | with_reducible refine Hj.r_nx ?_
  | with_reducible refine Hj.r_rt ?_
  | with_reducible refine L2.iteT ?_
  | with_reducible refine L2.iteF ?_
  | with_reducible refine Hj.r_set ?_
  | with_reducible refine Hj.r_gname ?_
  | with_reducible refine Hj.r_if ?_
  | with_reducible refine Hj.r_ret ?_
  | ((with_reducible show L2.tVar _ _ _ _); refine ⟨_, rfl, ?_⟩)
  | with_reducible refine Hj.r_c ?_
  | with_reducible refine Hj.r_cons ?_
  | with_reducible refine Hj.r_nil ?_
  | with_reducible refine Hj.r_op ?_
  | with_reducible refine Hj.r_test ?_
  | with_reducible refine Hj.r_B ?_
  | with_reducible refine Hj.r_cb ?_
  | with_reducible refine Hj.r_blV ?_
  | with_reducible refine Hj.r_and ?_
  | with_reducible refine Hj.r_or ?_
  | with_reducible refine Hj.r_not ?_
  | with_reducible refine Hj.r_call ?_
  | with_reducible refine Hj.r_tup ?_
  | with_reducible refine Hj.r_lst ?_
  | with_reducible refine Hj.r_eqS ?_
  | with_reducible refine Hj.r_eqI ?_
  | with_reducible refine Hj.r_neS ?_
  | with_reducible refine Hj.r_neI ?_
  | with_reducible refine Hj.r_isN ?_
  | with_reducible refine Hj.r_I0 ?_
  | with_reducible refine Hj.r_addI ?_
  | with_reducible refine Hj.r_intOf ?_
  | with_reducible refine Hj.r_mx ?_
  | with_reducible refine Hj.r_un ?_
  | with_reducible refine Hj.r_neg ?_
  | with_reducible refine Hj.r_drop ?_
  | with_reducible refine Hj.r_next ?_
  | with_reducible refine Hj.r_retN ?_
  | with_reducible refine Hj.r_sub ?_
  | with_reducible refine Hj.r_asg ?_
  | with_reducible refine Hj.r_bm ?_
  | with_reducible refine Hj.r_bm0 ?_
  | with_reducible refine Hj.r_meth ?_
  | with_reducible refine Hj.r_make ?_
  | with_reducible refine Hj.r_fldE ?_
  | with_reducible refine Hj.r_setF ?_
  | with_reducible refine Hj.r_sl ?_
  | with_reducible refine Hj.r_no ?_
  | with_reducible refine Hj.r_part ?_
  | with_reducible refine Hj.r_partI ?_
  | with_reducible refine Hj.r_m1 ?_
  | with_reducible refine Hj.r_strs ?_
  | with_reducible refine Hj.r_andV ?_
  | with_reducible refine Hj.r_orV ?_
  | with_reducible refine Hj.r_notV ?_
  | with_reducible refine Hj.r_for ?_
  | with_reducible refine Hj.r_rng ?_
  | with_reducible refine Hj.r_itL ?_
  | with_reducible refine Hj.r_itT ?_
  | with_reducible refine Hj.r_itS ?_
  | with_reducible refine Hj.r_itSE ?_))
local macro_rules | `(tactic| walk_at "rk") => `(tactic| repeat (first
  | with_reducible refine Hj.r_seq ?_
  | with_reducible refine Hj.r_nx ?_
  | with_reducible refine Hj.r_rt ?_
  | with_reducible refine L2.iteT ?_
  | with_reducible refine L2.iteF ?_
  | with_reducible refine Hj.r_set ?_
  | with_reducible refine Hj.r_gname ?_
  | with_reducible refine Hj.r_if ?_
  | with_reducible refine Hj.r_ret ?_
  | ((with_reducible show L2.tVar _ _ _ _); refine ⟨_, rfl, ?_⟩)
  | with_reducible refine Hj.r_c ?_
  | with_reducible refine Hj.r_cons ?_
  | with_reducible refine Hj.r_nil ?_
  | with_reducible refine Hj.r_op ?_
  | with_reducible refine Hj.r_test ?_
  | with_reducible refine Hj.r_B ?_
  | with_reducible refine Hj.r_cb ?_
  | with_reducible refine Hj.r_blV ?_
  | with_reducible refine Hj.r_and ?_
  | with_reducible refine Hj.r_or ?_
  | with_reducible refine Hj.r_not ?_
  | with_reducible refine Hj.r_call ?_
  | with_reducible refine Hj.r_tupK ?_
  | with_reducible refine Hj.r_lstK ?_
  | with_reducible refine Hj.r_eqS ?_
  | with_reducible refine Hj.r_eqI ?_
  | with_reducible refine Hj.r_neS ?_
  | with_reducible refine Hj.r_neI ?_
  | with_reducible refine Hj.r_isN ?_
  | with_reducible refine Hj.r_I0 ?_
  | with_reducible refine Hj.r_addI ?_
  | with_reducible refine Hj.r_intOf ?_
  | with_reducible refine Hj.r_mx ?_
  | with_reducible refine Hj.r_un ?_
  | with_reducible refine Hj.r_neg ?_
  | with_reducible refine Hj.r_drop ?_
  | with_reducible refine Hj.r_next ?_
  | with_reducible refine Hj.r_retN ?_
  | with_reducible refine Hj.r_sub ?_
  | with_reducible refine Hj.r_asg ?_
  | with_reducible refine Hj.r_bm ?_
  | with_reducible refine Hj.r_bm0 ?_
  | with_reducible refine Hj.r_meth ?_
  | with_reducible refine Hj.r_make ?_
  | with_reducible refine Hj.r_fldE ?_
  | with_reducible refine Hj.r_setF ?_
  | with_reducible refine Hj.r_sl ?_
  | with_reducible refine Hj.r_no ?_
  | with_reducible refine Hj.r_part ?_
  | with_reducible refine Hj.r_partI ?_
  | with_reducible refine Hj.r_m1 ?_
  | with_reducible refine Hj.r_strs ?_
  | with_reducible refine Hj.r_andV ?_
  | with_reducible refine Hj.r_orV ?_
  | with_reducible refine Hj.r_notV ?_
  | with_reducible refine Hj.r_for ?_
  | with_reducible refine Hj.r_rng ?_
  | with_reducible refine Hj.r_itL ?_
  | with_reducible refine Hj.r_itT ?_
  | with_reducible refine Hj.r_itS ?_
  | with_reducible refine Hj.r_itSE ?_))
local macro_rules | `(tactic| walk_at "cl") => `(tactic| ((try dsimp only [L2.cxOf, L2.Cx.nox]); simp only [L2.start, List.map, List.length, List.replicate, List.cons_append, List.nil_append, Nat.reduceAdd, Nat.reduceSub]))
local macro_rules | `(tactic| walk_at "len") => `(tactic| (intro vs H Q E h; first
  | (obtain ⟨_, ee, _⟩ := h; subst ee; rfl) | (obtain ⟨_, _, ee, _⟩ := h; subst ee; rfl) | (obtain ⟨_, _, _, ee, _⟩ := h; subst ee; rfl) | (obtain ⟨_, _, _, _, ee, _⟩ := h; subst ee; rfl) | (obtain ⟨_, _, _, _, _, ee, _⟩ := h; subst ee; rfl) | (obtain ⟨_, _, _, _, _, _, ee, _⟩ := h; subst ee; rfl)
  | (obtain ⟨_, _, _, _, _, _, _, ee, _⟩ := h; subst ee; rfl) | (obtain ⟨_, _, _, _, _, _, _, _, ee, _⟩ := h; subst ee; rfl) | (obtain ⟨_, _, _, _, _, _, _, _, _, ee, _⟩ := h; subst ee; rfl) | (obtain ⟨_, _, _, _, _, _, _, _, _, _, ee, _⟩ := h; subst ee; rfl)))
namespace Hj
open PySem PySem.Spec L2
/-! ### sizes of what is being read -/
theorem cntS_pos (s : Stm) : 1 ≤ cntS s := by cases s <;> simp [cntS] <;> omega
theorem len_cnt : ∀ o : List Stm, o.length ≤ cntO o
  | [] => Nat.zero_le _
  | s :: r => by
    have h1 := cntS_pos s
    have h2 := len_cnt r
    simp only [List.length_cons, cntO]
    omega
theorem stk_cur : ∀ {stk : List Fr} {f : Fr}, f ∈ stk → f.cur.length ≤ stC stk
  | [], _, h => absurd h (by simp)
  | g :: r, f, h => by
    rcases List.mem_cons.mp h with rfl | h
    · have := len_cnt f.cur
      simp only [stC, frC]
      omega
    · have := stk_cur h
      simp only [stC]
      omega
theorem stk_len : ∀ {stk : List Fr}, okSt stk → stk.length ≤ stC stk + 1
  | [], _ => Nat.zero_le _
  | f :: r, h => by
    obtain ⟨⟨_, _, _, _, h5⟩, h6⟩ := h
    by_cases hr : r = []
    · subst hr
      simp
    · have h7 := stk_len h6
      have h8 : hC f.hd = 1 := by
        cases e : f.hd with
        | root => rw [e] at h5; exact absurd (h5.mp trivial) hr
        | each _ => rfl
        | ife _ => rfl
        | whl _ => rfl
      simp only [List.length_cons, stC, frC]
      omega
theorem mstep_many {s t : MS} {w : Str} (e : mstep s w = some t) : t.many ≤ s.many + 1 := by
  obtain ⟨stk, pend, many, deep⟩ := s
  cases pend with
  | none =>
    simp only [mstep, mfree] at e
    split at e
    · obtain rfl := Option.some.inj e
      exact Nat.le_refl _
    · split at e
      · cases h : mElse stk with
        | none => rw [h] at e; cases e
        | some k => rw [h] at e; obtain rfl := Option.some.inj e; exact Nat.le_succ _
      · split at e
        · cases h : mEnd stk with
          | none => rw [h] at e; cases e
          | some k => rw [h] at e; obtain rfl := Option.some.inj e; exact Nat.le_succ _
        · cases e
  | some p =>
    simp only [mstep] at e
    cases h : pnext (scp stk) p w with
    | none => rw [h] at e; cases e
    | some nx =>
      rw [h] at e
      obtain rfl := Option.some.inj e
      cases nx <;> exact Nat.le_succ _
/-- what a reading tells, as data -/
def dR (n : Nat) : Res → PyData
  | .bad k => .tuple [.str "BadText", .int ((n - k : Nat) : Int)]
  | .many k => .tuple [.str "TooMany", .int (k : Int), .int 12]
  | .deep k => .tuple [.str "TooMany", .int (k : Int), .int 3]
  | .told o m d => .tuple [.str "told", dO o, .int (m : Int), .int (d : Int)]
theorem scp_filter : ∀ stk : List Fr, scp stk = stk.filterMap fun f => match f.hd with
    | .each v => some v
    | _ => none
  | [] => rfl
  | f :: r => by
    simp only [scp, List.filterMap_cons]
    cases h : f.hd <;> simp [scp_filter r]
def hv (f : Fr) : Option Str := match f.hd with
  | .each v => some v
  | _ => none
theorem scp_hv (stk : List Fr) : scp stk = stk.filterMap hv := scp_filter stk
theorem begins_in (z : Str) : (begins z).isSome = [kJoin, kClear, kEach, kIf, kWhile, kUntil].contains z := by
  rw [Bool.eq_iff_iff, List.contains_iff_mem]
  unfold begins
  constructor
  · intro h
    repeat' split at h
    all_goals first | (simp_all; done) | cases h
  · intro h
    simp only [List.mem_cons, List.not_mem_nil, or_false] at h
    rcases h with rfl | rfl | rfl | rfl | rfl | rfl <;> decide +kernel
section
variable {P : Program} {w : World} {K : PySem.W.Frag} {mg : Str → Option Value} {base : Heap}
theorem FrAt.ne {H : Hp} {a : Addr} {f : Fr} {fo : List Addr} (h : FrAt K H a f fo) : ∀ x ∈ fo, H x ≠ none := by
  obtain ⟨kk, ws, pw, pc, cs, vo, h1, h2, h3, h4, h5, h6⟩ := h.ex
  rcases h6 with ⟨a1, a2, rfl⟩ | ⟨b, pb, bs, a1, a2, a3, a4, rfl⟩
  · intro x hx
    simp only [List.mem_cons, List.not_mem_nil, or_false] at hx
    rcases hx with rfl | rfl | rfl
    · rw [h1]; simp
    · rw [h2]; simp
    · rw [h3]; simp
  · intro x hx
    simp only [List.mem_cons, List.not_mem_nil, or_false] at hx
    rcases hx with rfl | rfl | rfl | rfl
    · rw [h1]; simp
    · rw [h2]; simp
    · rw [h3]; simp
    · rw [a3]; simp
/-- the frames, the youngest first -/
def StkAt (K : PySem.W.Frag) (H : Hp) : List Addr → List Fr → List Addr → Prop
  | [], [], ft => ft = []
  | a :: as, f :: r, ft => ∃ f1 f2, ft = f1 ++ f2 ∧ FrAt K H a f f1 ∧ StkAt K H as r f2
  | _, _, _ => False
theorem StkAt.keep {S : List Addr} {H H' : Hp} (k : Kp S H H') : ∀ {as : List Addr} {stk : List Fr} {ft : List Addr}, StkAt K H as stk ft → (∀ x ∈ ft, x ∉ S) → StkAt K H' as stk ft
  | [], [], _, h, _ => h
  | a :: as, f :: r, _, ⟨f1, f2, e, h1, h2⟩, hs => ⟨f1, f2, e, h1.keep k fun x hx => hs x (by rw [e]; exact List.mem_append_left _ hx), StkAt.keep k h2 fun x hx => hs x (by rw [e]; exact List.mem_append_right _ hx)⟩
  | [], _ :: _, _, h, _ => h.elim
  | _ :: _, [], _, h, _ => h.elim
theorem StkAt.ne {H : Hp} : ∀ {as : List Addr} {stk : List Fr} {ft : List Addr}, StkAt K H as stk ft → ∀ x ∈ ft, H x ≠ none
  | [], [], _, h, x, hx => by rw [show _ = [] from h] at hx; cases hx
  | a :: as, f :: r, _, ⟨f1, f2, e, h1, h2⟩, x, hx => by
    rw [e] at hx
    rcases List.mem_append.mp hx with hx | hx
    · exact h1.ne x hx
    · exact StkAt.ne h2 x hx
  | [], _ :: _, _, h, _, _ => h.elim
  | _ :: _, [], _, h, _, _ => h.elim
theorem StkAt.len {H : Hp} : ∀ {as : List Addr} {stk : List Fr} {ft : List Addr}, StkAt K H as stk ft → as.length = stk.length
  | [], [], _, _ => rfl
  | a :: as, f :: r, _, ⟨f1, f2, e, h1, h2⟩ => congrArg (· + 1) (StkAt.len h2)
  | [], _ :: _, _, h => h.elim
  | _ :: _, [], _, h => h.elim
theorem StkAt.get {H : Hp} : ∀ {as : List Addr} {stk : List Fr} {ft : List Addr} {i : Nat} {a : Addr}, StkAt K H as stk ft → as[i]? = some a → ∃ f fo, stk[i]? = some f ∧ FrAt K H a f fo
  | [], [], _, _, _, _, e => by simp at e
  | a :: as, f :: r, _, 0, b, ⟨f1, f2, e, h1, h2⟩, eb => by
    have : a = b := by simpa using eb
    subst this
    exact ⟨f, f1, rfl, h1⟩
  | a :: as, f :: r, _, i + 1, b, ⟨f1, f2, e, h1, h2⟩, eb => by
    obtain ⟨g, fo, h3, h4⟩ := StkAt.get (i := i) h2 (by simpa using eb)
    exact ⟨g, fo, by simpa using h3, h4⟩
  | [], _ :: _, _, _, _, h, _ => h.elim
  | _ :: _, [], _, _, _, h, _ => h.elim
theorem StkAt.getR {H : Hp} {as : List Addr} {stk : List Fr} {ft : List Addr} {i : Nat} {x : V} (h : StkAt K H as stk ft) (e : (as.reverse.map V.ref)[i]? = some x) : ∃ a f fo, x = .ref a ∧ stk.reverse[i]? = some f ∧ FrAt K H a f fo := by
  rw [List.getElem?_map] at e
  cases e2 : as.reverse[i]? with
  | none => rw [e2] at e; cases e
  | some a =>
    rw [e2] at e
    have hi : i < as.length := by
      have := (List.getElem?_eq_some_iff.mp e2).1
      simpa using this
    rw [List.getElem?_reverse hi] at e2
    obtain ⟨f, fo, h1, h2⟩ := h.get e2
    refine ⟨a, f, fo, (Option.some.inj e).symm, ?_, h2⟩
    rw [List.getElem?_reverse (by rw [← h.len]; exact hi), ← h.len]
    exact h1
theorem Kp.young {S : List Addr} {H H1 H2 : Hp} (x : Kp [] H H1) (y : Kp S H1 H2) (h : ∀ b ∈ S, H b = none) : Kp [] H H2 := fun b u e z => by
  have hb : b ∉ S := fun hm => by rw [h b hm] at e; cases e
  exact y b u (x b u e z) (.inl hb)
/-- all that the second reader holds -/
structure RdAt (K : PySem.W.Frag) (H0 H : Hp) (pq pf pg : Addr) (as : List Addr) (stk : List Fr) (ft : List Addr) (wl bg : List Str) : Prop where
  q : H pq = some (.lst (wl.map V.str))
  f : H pf = some (.lst (as.reverse.map V.ref))
  g : H pg = some (.lst (bg.map V.str))
  st : StkAt K H as stk ft
  nd : (pq :: pf :: pg :: ft).Nodup
  fr : ∀ x ∈ pq :: pf :: pg :: ft, H0 x = none
  kp : Kp [] H0 H
theorem RdAt.ne {H0 H : Hp} {pq pf pg : Addr} {as : List Addr} {stk : List Fr} {ft : List Addr} {wl bg : List Str} (r : RdAt K H0 H pq pf pg as stk ft wl bg) : ∀ x ∈ pq :: pf :: pg :: ft, H x ≠ none := by
  intro x hx
  rcases List.mem_cons.mp hx with rfl | hx
  · rw [r.q]; simp
  rcases List.mem_cons.mp hx with rfl | hx
  · rw [r.f]; simp
  rcases List.mem_cons.mp hx with rfl | hx
  · rw [r.g]; simp
  exact r.st.ne x hx
theorem RdAt.keep0 {H0 H H' : Hp} {pq pf pg : Addr} {as : List Addr} {stk : List Fr} {ft : List Addr} {wl bg : List Str} (r : RdAt K H0 H pq pf pg as stk ft wl bg) (k : Kp [] H H') : RdAt K H0 H' pq pf pg as stk ft wl bg :=
  ⟨k.get r.q (by simp), k.get r.f (by simp), k.get r.g (by simp), r.st.keep k (by simp), r.nd, r.fr, r.kp.trans k⟩
/-- a fresh list for what is awaited -/
theorem RdAt.setQ {H0 H : Hp} {pq pf pg p : Addr} {as : List Addr} {stk : List Fr} {ft : List Addr} {wl bg wl' : List Str} (r : RdAt K H0 H pq pf pg as stk ft wl bg) {H1 : Hp} (k : Kp [] H1 H) (n0 : H1 p = none) (r1 : ∀ x ∈ pf :: pg :: ft, H1 x ≠ none) (k0 : Kp [] H0 H1) (e : H p = some (.lst (wl'.map V.str))) : RdAt K H0 H p pf pg as stk ft wl' bg := by
  refine ⟨e, r.f, r.g, r.st, List.nodup_cons.mpr ⟨fun hm => r1 p hm n0, (List.nodup_cons.mp r.nd).2⟩, fun x hx => ?_, r.kp⟩
  rcases List.mem_cons.mp hx with rfl | hx
  · exact k0.free0 n0
  · exact r.fr x (List.mem_cons_of_mem _ hx)
end
end Hj
end
section
set_option Elab.async false
set_option linter.all false
set_option maxRecDepth 100000
set_option maxHeartbeats 16000000
local macro_rules | `(tactic| walk_at "rd") => `(tactic| repeat (first
  | with_reducible refine Hj.r_seq ?_
  | with_reducible refine Hj.r_nx ?_
  | with_reducible refine Hj.r_rt ?_
  | with_reducible refine L2.iteT ?_
  | with_reducible refine L2.iteF ?_
  | with_reducible refine Hj.r_set ?_
  | with_reducible refine Hj.r_gname ?_
  | with_reducible refine Hj.r_if ?_
  | with_reducible refine Hj.r_ret ?_
  | ((with_reducible show L2.tVar _ _ _ _); refine ⟨_, rfl, ?_⟩)
  | with_reducible refine Hj.r_c ?_
  | with_reducible refine Hj.r_cons ?_
  | with_reducible refine Hj.r_nil ?_
  | with_reducible refine Hj.r_op ?_
  | with_reducible refine Hj.r_test ?_
  | with_reducible refine Hj.r_B ?_
  | with_reducible refine Hj.r_cb ?_
  | with_reducible refine Hj.r_blV ?_
  | with_reducible refine Hj.r_and ?_
  | with_reducible refine Hj.r_or ?_
  | with_reducible refine Hj.r_not ?_
  | with_reducible refine Hj.r_call ?_
  | with_reducible refine Hj.r_tup ?_
  | with_reducible refine Hj.r_lst ?_
  | with_reducible refine Hj.r_eqS ?_
  | with_reducible refine Hj.r_eqI ?_
  | with_reducible refine Hj.r_neS ?_
  | with_reducible refine Hj.r_neI ?_
  | with_reducible refine Hj.r_isN ?_
  | with_reducible refine Hj.r_I0 ?_
  | with_reducible refine Hj.r_addI ?_
  | with_reducible refine Hj.r_intOf ?_
  | with_reducible refine Hj.r_mx ?_
  | with_reducible refine Hj.r_un ?_
  | with_reducible refine Hj.r_neg ?_
  | with_reducible refine Hj.r_drop ?_
  | with_reducible refine Hj.r_next ?_
  | with_reducible refine Hj.r_retN ?_
  | with_reducible refine Hj.r_sub ?_
  | with_reducible refine Hj.r_asg ?_
  | with_reducible refine Hj.r_bm ?_
  | with_reducible refine Hj.r_bm0 ?_
  | with_reducible refine Hj.r_meth ?_
  | with_reducible refine Hj.r_make ?_
  | with_reducible refine Hj.r_fldE ?_
  | with_reducible refine Hj.r_setF ?_
  | with_reducible refine Hj.r_sl ?_
  | with_reducible refine Hj.r_no ?_
  | with_reducible refine Hj.r_part ?_
  | with_reducible refine Hj.r_partI ?_
  | with_reducible refine Hj.r_m1 ?_
  | with_reducible refine Hj.r_strs ?_
  | with_reducible refine Hj.r_andV ?_
  | with_reducible refine Hj.r_orV ?_
  | with_reducible refine Hj.r_notV ?_
  | with_reducible refine Hj.r_for ?_
  | with_reducible refine Hj.r_rng ?_
  | with_reducible refine Hj.r_itL ?_
  | with_reducible refine Hj.r_itT ?_
  | with_reducible refine Hj.r_itS ?_
  | with_reducible refine Hj.r_itSE ?_))
local macro_rules | `(tactic| walk_at "rk") => `(tactic| repeat (first
  | with_reducible refine Hj.r_seq ?_
  | with_reducible refine Hj.r_nx ?_
  | with_reducible refine Hj.r_rt ?_
  | with_reducible refine L2.iteT ?_
  | with_reducible refine L2.iteF ?_
  | with_reducible refine Hj.r_set ?_
  | with_reducible refine Hj.r_gname ?_
  | with_reducible refine Hj.r_if ?_
  | with_reducible refine Hj.r_ret ?_
  | ((with_reducible show L2.tVar _ _ _ _); refine ⟨_, rfl, ?_⟩)
  | with_reducible refine Hj.r_c ?_
  | with_reducible refine Hj.r_cons ?_
  | with_reducible refine Hj.r_nil ?_
  | with_reducible refine Hj.r_op ?_
  | with_reducible refine Hj.r_test ?_
  | with_reducible refine Hj.r_B ?_
  | with_reducible refine Hj.r_cb ?_
  | with_reducible refine Hj.r_blV ?_
  | with_reducible refine Hj.r_and ?_
  | with_reducible refine Hj.r_or ?_
  | with_reducible refine Hj.r_not ?_
  | with_reducible refine Hj.r_call ?_
  | with_reducible refine Hj.r_tupK ?_
  | with_reducible refine Hj.r_lstK ?_
  | with_reducible refine Hj.r_eqS ?_
  | with_reducible refine Hj.r_eqI ?_
  | with_reducible refine Hj.r_neS ?_
  | with_reducible refine Hj.r_neI ?_
  | with_reducible refine Hj.r_isN ?_
  | with_reducible refine Hj.r_I0 ?_
  | with_reducible refine Hj.r_addI ?_
  | with_reducible refine Hj.r_intOf ?_
  | with_reducible refine Hj.r_mx ?_
  | with_reducible refine Hj.r_un ?_
  | with_reducible refine Hj.r_neg ?_
  | with_reducible refine Hj.r_drop ?_
  | with_reducible refine Hj.r_next ?_
  | with_reducible refine Hj.r_retN ?_
  | with_reducible refine Hj.r_sub ?_
  | with_reducible refine Hj.r_asg ?_
  | with_reducible refine Hj.r_bm ?_
  | with_reducible refine Hj.r_bm0 ?_
  | with_reducible refine Hj.r_meth ?_
  | with_reducible refine Hj.r_make ?_
  | with_reducible refine Hj.r_fldE ?_
  | with_reducible refine Hj.r_setF ?_
  | with_reducible refine Hj.r_sl ?_
  | with_reducible refine Hj.r_no ?_
  | with_reducible refine Hj.r_part ?_
  | with_reducible refine Hj.r_partI ?_
  | with_reducible refine Hj.r_m1 ?_
  | with_reducible refine Hj.r_strs ?_
  | with_reducible refine Hj.r_andV ?_
  | with_reducible refine Hj.r_orV ?_
  | with_reducible refine Hj.r_notV ?_
  | with_reducible refine Hj.r_for ?_
  | with_reducible refine Hj.r_rng ?_
  | with_reducible refine Hj.r_itL ?_
  | with_reducible refine Hj.r_itT ?_
  | with_reducible refine Hj.r_itS ?_
  | with_reducible refine Hj.r_itSE ?_))
local macro_rules | `(tactic| walk_at "cl") => `(tactic| ((try dsimp only [L2.cxOf, L2.Cx.nox]); simp only [L2.start, List.map, List.length, List.replicate, List.cons_append, List.nil_append, Nat.reduceAdd, Nat.reduceSub]))
local macro_rules | `(tactic| walk_at "len") => `(tactic| (intro vs H Q E h; first
  | (obtain ⟨_, ee, _⟩ := h; subst ee; rfl) | (obtain ⟨_, _, ee, _⟩ := h; subst ee; rfl) | (obtain ⟨_, _, _, ee, _⟩ := h; subst ee; rfl) | (obtain ⟨_, _, _, _, ee, _⟩ := h; subst ee; rfl) | (obtain ⟨_, _, _, _, _, ee, _⟩ := h; subst ee; rfl) | (obtain ⟨_, _, _, _, _, _, ee, _⟩ := h; subst ee; rfl)
  | (obtain ⟨_, _, _, _, _, _, _, ee, _⟩ := h; subst ee; rfl) | (obtain ⟨_, _, _, _, _, _, _, _, ee, _⟩ := h; subst ee; rfl) | (obtain ⟨_, _, _, _, _, _, _, _, _, ee, _⟩ := h; subst ee; rfl) | (obtain ⟨_, _, _, _, _, _, _, _, _, _, ee, _⟩ := h; subst ee; rfl)))
namespace Hj
open PySem PySem.Spec L2
section
variable {P : Program} {w : World} {K : PySem.W.Frag} {mg : Str → Option Value} {base : Heap}
theorem RdAt.sep {H0 H : Hp} {pq pf pg : Addr} {as : List Addr} {stk : List Fr} {ft : List Addr} {wl bg : List Str} (r : RdAt K H0 H pq pf pg as stk ft wl bg) : (pq ≠ pf ∧ pq ≠ pg ∧ pq ∉ ft) ∧ (pf ≠ pg ∧ pf ∉ ft) ∧ pg ∉ ft ∧ ft.Nodup := by
  have h := r.nd
  simp only [List.nodup_cons, List.mem_cons, not_or] at h
  exact ⟨⟨h.1.1, h.1.2.1, h.1.2.2⟩, ⟨h.2.1.1, h.2.1.2⟩, h.2.2.1, h.2.2.2⟩
theorem StkAt.top {H : Hp} {as : List Addr} {f : Fr} {r : List Fr} {ft : List Addr} (h : StkAt K H as (f :: r) ft) : ∃ a as' f1 f2, as = a :: as' ∧ ft = f1 ++ f2 ∧ FrAt K H a f f1 ∧ StkAt K H as' r f2 := by
  cases as with
  | nil => exact h.elim
  | cons a as =>
    obtain ⟨f1, f2, e, h1, h2⟩ := h
    exact ⟨a, as, f1, f2, rfl, e, h1, h2⟩
theorem rev_cons (a : Addr) (as : List Addr) : (a :: as).reverse.map V.ref = as.reverse.map V.ref ++ [V.ref a] := by
  rw [List.reverse_cons, List.map_append]
  rfl
theorem wtg_kind {p : Pend} {k : Str} {r : List Str} (h : wtg p = k :: r) : (k = kTerm ∨ k = kVar ∨ k = kDo ∨ k = kTest ∨ k = kPlain) ∧ r.length ≤ 10 := by
  cases p <;> (simp only [wtg, List.cons.injEq] at h; obtain ⟨rfl, rfl⟩ := h; simp)
theorem bgn_len (p : Pend) : (bgn p).length ≤ 5 := by
  cases p <;> simp [bgn, nw] <;> split <;> simp
/-- a statement is laid into the youngest frame -/
theorem FrAt.put {H : Hp} {a : Addr} {f : Fr} {fo : List Addr} (h : FrAt K H a f fo) (nd : fo.Nodup) (hl : f.cur.length < 1000000) : ∃ (kk : V) (pw pc : Addr) (vo : V) (cs : List V), H a = some (.lst [kk, .ref pw, .ref pc, vo]) ∧ H pc = some (.lst cs) ∧ pc ∈ fo ∧ cs.length < 1000000 ∧
    ∀ (v : V) (t : Stm) (H1 H' : Hp), Kp [] H H1 → Dp K H1 v (dS t) → Kp [pc] H1 H' → H' pc = some (.lst (cs ++ [v])) → FrAt K H' a { f with cur := f.cur ++ [t] } fo := by
  obtain ⟨kk, ws, pw, pc, cs, vo, h1, h2, h3, h4, h5, h6⟩ := h.ex
  have lc : cs.length = f.cur.length := by rw [DpAll.len h4, dL_len]
  rcases h6 with ⟨a1, a2, rfl⟩ | ⟨b, pb, bs, a1, a2, a3, a4, rfl⟩
  · simp only [List.nodup_cons, List.mem_cons, List.not_mem_nil, or_false, not_or] at nd
    refine ⟨_, pw, pc, vo, cs, h1, h3, by simp, by omega, fun v t H1 H' k0 dv k e => ⟨kk, ws, pw, pc, cs ++ [v], vo, k.get (k0.get h1 (by simp)) (by simpa using nd.1.2), k.get (k0.get h2 (by simp)) (by simpa using nd.2.1), e, ?_, h5, .inl ⟨a1, a2, rfl⟩⟩⟩
    rw [dL_app]
    exact DpAll.app (dps_keep (k0.all.trans k) _ _ (flat_L _) h4) (.cons (dp_keep k _ _ (flat_S _) dv) .nil)
  · simp only [List.nodup_cons, List.mem_cons, List.not_mem_nil, or_false, not_or] at nd
    refine ⟨_, pw, pc, vo, cs, h1, h3, by simp, by omega, fun v t H1 H' k0 dv k e => ⟨kk, ws, pw, pc, cs ++ [v], vo, k.get (k0.get h1 (by simp)) (by simpa using nd.1.2.1), k.get (k0.get h2 (by simp)) (by simpa using nd.2.1.1), e, ?_, h5, .inr ⟨b, pb, bs, a1, a2, k.get (k0.get a3 (by simp)) (by simpa using fun z => nd.2.2.1 z.symm), dps_keep (k0.all.trans k) _ _ (flat_L _) a4, rfl⟩⟩⟩
    rw [dL_app]
    exact DpAll.app (dps_keep (k0.all.trans k) _ _ (flat_L _) h4) (.cons (dp_keep k _ _ (flat_S _) dv) .nil)
/-- the frame's parts, to be read -/
theorem FrAt.rd {H : Hp} {a : Addr} {f : Fr} {fo : List Addr} (h : FrAt K H a f fo) : ∃ (k : Str) (ws : List Str) (pw pc : Addr) (vo : V), H a = some (.lst [.str k, .ref pw, .ref pc, vo]) ∧ H pw = some (.lst (ws.map V.str)) ∧ HdR f.hd k ws ∧ (vo = .non ↔ f.oth = none) := by
  obtain ⟨kk, ws, pw, pc, cs, vo, h1, h2, h3, h4, h5, h6⟩ := h.ex
  refine ⟨kk, ws, pw, pc, vo, h1, h2, h5, ?_⟩
  rcases h6 with ⟨a1, a2, rfl⟩ | ⟨b, pb, bs, a1, a2, a3, a4, rfl⟩
  · simp [a1, a2]
  · simp [a1, a2]
/-! ### more of frames -/
theorem cut_mid (x : V) (xs : List V) (y : V) : cutV (x :: (xs ++ [y])) (some 1) (some (-1)) = xs := by
  unfold cutV
  have e1 : HT.sIx (x :: (xs ++ [y])).length 0 (some 1) = 1 := by
    rw [show (some (1 : Int)) = some ((1 : Nat) : Int) from rfl, HT.sIx_nat]
    simp
  have e2 : HT.sIx (x :: (xs ++ [y])).length (x :: (xs ++ [y])).length (some (-1)) = xs.length + 1 := by
    show (if (-1 : Int) < 0 then ((-1 : Int) + ((x :: (xs ++ [y])).length : Int)).toNat else min (-1 : Int).toNat (x :: (xs ++ [y])).length) = _
    rw [if_pos (by decide)]
    simp only [List.length_cons, List.length_append, List.length_nil]
    omega
  rw [e1, e2]
  simp
theorem ixN_last (n : Nat) : ixN (n + 1) (-1) = some n := by
  unfold ixN
  rw [if_neg (by decide), if_pos (by omega)]
  congr 1
  omega
theorem set_last {α : Type _} (l : List α) (x y : α) : (l ++ [x]).set l.length y = l ++ [y] := by
  induction l with
  | nil => rfl
  | cons a l ih => simp
theorem r_setLK {H : Hp} {l : Addr} {xs : List V} {x v : V} {N : Hp → Prop} (hl : H l = some (.lst (xs ++ [x]))) (h : ∀ H2, Kp [l] H H2 → H2 l = some (.lst (xs ++ [v])) → N H2) : rSetL (.ref l) (.int (-1)) v H N :=
  r_setL hl (j := xs.length) (by rw [List.length_append]; exact ixN_last _) (h _ (Kp.put (by simp) hl (fun z => z)) (by rw [upd_same, set_last]))
theorem begins_inv {z : Str} {p : Pend} (h : begins z = some p) : (z = kJoin ∧ p = .join0) ∨ (z = kClear ∧ p = .clear0) ∨ (z = kEach ∧ p = .each0) ∨ (z = kIf ∧ p = .t0 .ife) ∨ (z = kWhile ∧ p = .t0 .whl) ∨ (z = kUntil ∧ p = .t0 .unt) := by
  unfold begins at h
  repeat' split at h
  all_goals first
    | (obtain rfl := Option.some.inj h; simp_all; done)
    | cases h
theorem HdR.if_iff {h : Hd} {k : Str} {ws : List Str} (r : HdR h k ws) : k = kIf ↔ isIf h := by
  rcases r with ⟨rfl, rfl, rfl⟩ | r
  · simp only [isIf, iff_false]
    decide +kernel
  · cases r <;> simp only [isIf, iff_false, iff_true] <;> decide +kernel
/-- a fresh list for what has begun -/
theorem RdAt.setG {H0 H : Hp} {pq pf pg p : Addr} {as : List Addr} {stk : List Fr} {ft : List Addr} {wl bg bg' : List Str} (r : RdAt K H0 H pq pf pg as stk ft wl bg) {H1 : Hp} (k : Kp [] H1 H) (n0 : H1 p = none) (r1 : ∀ x ∈ pq :: pf :: pg :: ft, H1 x ≠ none) (k0 : Kp [] H0 H1) (e : H p = some (.lst (bg'.map V.str))) : RdAt K H0 H pq pf p as stk ft wl bg' := by
  have hp : ∀ x ∈ pq :: pf :: pg :: ft, x ≠ p := fun x hx e => r1 x hx (e ▸ n0)
  have h := r.nd
  simp only [List.nodup_cons, List.mem_cons, not_or] at h
  refine ⟨r.q, r.f, e, r.st, ?_, fun x hx => ?_, r.kp⟩
  · simp only [List.nodup_cons, List.mem_cons, not_or]
    exact ⟨⟨h.1.1, hp _ (by simp), h.1.2.2⟩, ⟨hp _ (by simp), h.2.1.2⟩, fun hm => hp p (by simp [hm]) rfl, h.2.2.2⟩
  · simp only [List.mem_cons] at hx
    rcases hx with rfl | rfl | rfl | hx
    · exact r.fr _ (by simp)
    · exact r.fr _ (by simp)
    · exact k0.free0 n0
    · exact r.fr _ (by simp [hx])
/-- one of its own is written -/
theorem RdAt.kpy {H0 H H' : Hp} {pq pf pg : Addr} {as : List Addr} {stk : List Fr} {ft : List Addr} {wl bg : List Str} (r : RdAt K H0 H pq pf pg as stk ft wl bg) {x : Addr} (hx : x ∈ pq :: pf :: pg :: ft) (k : Kp [x] H H') : Kp [] H0 H' :=
  r.kp.young k fun b hb => by rw [List.mem_singleton.mp hb]; exact r.fr x hx
/-- a statement at the top -/
theorem RdAt.add {H0 H : Hp} {pq pf pg : Addr} {as : List Addr} {f : Fr} {r : List Fr} {ft : List Addr} {wl bg : List Str} (R : RdAt K H0 H pq pf pg as (f :: r) ft wl bg) (hl : f.cur.length < 1000000) :
    ∃ (xs : List V) (a : Addr) (kk : V) (pw pc : Addr) (vo : V) (cs : List V), H pf = some (.lst (xs ++ [.ref a])) ∧ H a = some (.lst [kk, .ref pw, .ref pc, vo]) ∧ H pc = some (.lst cs) ∧ cs.length < 1000000 ∧ ∀ (v : V) (t : Stm) (H1 H' : Hp), Kp [] H H1 → Dp K H1 v (dS t) → Kp [pc] H1 H' → H' pc = some (.lst (cs ++ [v])) → RdAt K H0 H' pq pf pg as (addS t (f :: r)) ft wl bg := by
  obtain ⟨a, as', f1, f2, rfl, rfl, h1, h2⟩ := R.st.top
  obtain ⟨⟨s1, s2, s3⟩, ⟨s4, s5⟩, s6, s7⟩ := R.sep
  obtain ⟨n1, n2, n3⟩ := List.nodup_append.mp s7
  obtain ⟨kk, pw, pc, vo, cs, e1, e2, e3, e4, e5⟩ := h1.put n1 hl
  have hpc : pc ∈ f1 ++ f2 := List.mem_append_left _ e3
  refine ⟨as'.reverse.map V.ref, a, kk, pw, pc, vo, cs, by rw [← rev_cons]; exact R.f, e1, e2, e4, fun v t H1 H' k0 dv k e => ?_⟩
  have R1 := R.keep0 k0
  refine ⟨k.get R1.q (fun hm => s3 (List.mem_singleton.mp hm ▸ hpc)), k.get R1.f (fun hm => s5 (List.mem_singleton.mp hm ▸ hpc)), k.get R1.g (fun hm => s6 (List.mem_singleton.mp hm ▸ hpc)), ⟨f1, f2, rfl, e5 v t H1 H' k0 dv k e, (h2.keep k0 (by simp)).keep k fun x hx hm => ?_⟩, R.nd, R.fr, R1.kpy (List.mem_cons_of_mem _ (List.mem_cons_of_mem _ (List.mem_cons_of_mem _ hpc))) k⟩
  have : x = pc := List.mem_singleton.mp hm
  subst this
  exact n3 x e3 x hx rfl
def RdSt (K : PySem.W.Frag) (a : Addr) (H0 : Hp) (ws : List Str) (i : Nat) (σ' : L2.St) (H' : Hp) : Prop := ∃ (ms : MS) (pq pf pg : Addr) (as ft : List Addr) (o6 o7 o8 o9 o10 : Option V),
  σ' = [some (.ref a), some (.ref pf), some (.ref pq), some (.ref pg), some (.int (ms.many : Nat)), some (.int (ms.deep : Nat)), o6, o7, o8, o9, o10] ∧ RdAt K H0 H' pq pf pg as ms.stk ft (wtgO ms.pend) (bgnO ms.pend) ∧ MSok ms ∧ mtot ms (ws.drop i) = readW ws ∧ ms.many ≤ i
def MidOf (ms1 ms2 : MS) (wl bg : List Str) : Prop :=
  (ms1 = ms2 ∧ wl = wtgO ms2.pend ∧ bg = bgnO ms2.pend) ∨ (wl = [] ∧ ((∃ t, ms2 = mgo ms1 (.stm t) ∧ ((∃ x y, t = .join x y ∧ bg = [kJoin, x, y]) ∨ ∃ x, t = .clear x ∧ bg = [kClear, x])) ∨ ∃ h k wz, ms2 = mgo ms1 (.opn h) ∧ HdW h k wz ∧ bg = k :: (wz ++ [kDo]) ∧ k ≠ kJoin ∧ k ≠ kClear))
def RdMid (K : PySem.W.Frag) (a : Addr) (H0 : Hp) (ws : List Str) (i : Nat) (σ' : L2.St) (H' : Hp) : Prop := ∃ (ms1 ms2 : MS) (pq pf pg : Addr) (as ft : List Addr) (wl bg : List Str) (o6 o7 o8 o9 o10 : Option V),
  σ' = [some (.ref a), some (.ref pf), some (.ref pq), some (.ref pg), some (.int (ms1.many : Nat)), some (.int (ms1.deep : Nat)), o6, o7, o8, o9, o10] ∧ RdAt K H0 H' pq pf pg as ms1.stk ft wl bg ∧ MSok ms1 ∧ ms1.many ≤ i + 1 ∧ MidOf ms1 ms2 wl bg ∧ MSok ms2 ∧ mtot ms2 (ws.drop (i + 1)) = readW ws ∧ ms2.many ≤ i + 1
def spRead (K : PySem.W.Frag) : Sp := fun vs H Q _ => ∃ (a : Addr) (ws : List Str), vs = [.ref a] ∧ SqL K H a (ws.map V.str) ∧ ws.length ≤ 200000 ∧ (∀ z ∈ ws, z.length ≤ 100000) ∧ ∀ (v : V) (H' : Hp), Dp K H' v (dR ws.length (readW ws)) → Kp [] H H' → Q v H'
theorem sc_law_read : FnScope ["_law_words", "_law_frames", "_law_waiting_here", "_law_begun", "_law_many", "_law_deepest", "_law_place", "_law_word", "_law_scope", "_law_ended", "_law_frame"] ["_law_words"] (defScope s_law_read) := ⟨rfl, rfl, rfl, by decide +kernel, rfl, by decide +kernel, by decide +kernel⟩
theorem ok_law_read {f : Addr} {fd : FuncData} (F : Fun K "_law_read" "_law_read" s_law_read f fd) (T : Txt P K mg) (D_law_stands : Dn P w K mg base CX0 2 "_law_stands" ["_law_kind", "_law_word", "_law_scope"] (spStands K)) (D_law_waiting : Dn P w K mg base CX0 2 "_law_waiting" ["_law_waiting_here", "_law_word"] (spWaiting K))
    (D_law_head : Dn P w K mg base CX0 2 "_law_head" ["_law_word"] spHead) (D_law_closed_statement : Dn P w K mg base CX0 2 "_law_closed_statement" ["_law_frame"] (spClosed K)) : FnOk P w K mg base CX0 3 f fd ["_law_words"] (spRead K) := by
  refine F.ok sc_law_read ?_ (fun cdv A outer s H vs Q E hr0 h => ?_)
  · walk_at "len"
  obtain ⟨a, ws, rfl, hx, hl, hz, q⟩ := h
  refine ⟨_, (pss_cons (ps_set (i := 1) sc_law_read.nd rfl (Or.inl rfl) (pe_lst (pa_cons (pe_lst (pa_cons pe_str (pa_cons (pe_lst pa_nil) (pa_cons (pe_lst pa_nil) (pa_cons pe_non pa_nil))))) pa_nil))) (pss_cons (ps_set (i := 2) sc_law_read.nd rfl (Or.inl rfl) (pe_lst pa_nil)) (pss_cons (ps_set (i := 3) sc_law_read.nd rfl (Or.inl rfl) (pe_lst pa_nil)) (pss_cons (ps_set (i := 4) sc_law_read.nd rfl (Or.inl rfl) pe_int) (pss_cons (ps_set (i := 5) sc_law_read.nd rfl (Or.inl rfl) pe_int) (pss_cons (ps_for PassesOwn.never rfl (pi_range1 rfl T.zrange (pa_cons (pe_callB call_lenA (by rfl) T.zlen (by decide +kernel) (pa_cons (pv 0) pa_nil)) pa_nil)) (pg_name (i := 6) sc_law_read.nd rfl (Or.inl rfl)) (pss_cons (ps_set (i := 7) sc_law_read.nd rfl (Or.inl rfl) (pe_ix ix_seq (pv 0) (pv 6) (fun _ _ => rfl))) (pss_cons (ps_setLc (i := 8) (te := tOp (rIx K) (tOp (rIx K) (tVar 10) (tC (.int 1))) (tC (.int 0))) (tt := tTest (tOp rEq (tOp (rIx K) (tVar 10) (tC (.int 0))) (tC (.str "each")))) (own := [("_law_frame", 10)]) (g := gName 10) (by rfl) sc_law_read.nd rfl rfl (sw_true rfl rfl rfl (by decide +kernel)) (pi_list (pv 1)) (blkOk_by (own := [("_law_frame", 10)]) (N := ["_law_words", "_law_frames", "_law_waiting_here", "_law_begun", "_law_many", "_law_deepest", "_law_place", "_law_word", "_law_scope", "_law_ended", "_law_frame"]) (sc := defScope s_law_read) (by decide +kernel)) (fun _ _ _ _ _ => pg_name (i := 10) sc_law_read.nd rfl (Or.inl rfl)) (fun _ _ _ _ _ => (pts_one (pt_cmpR op_eq (pe_ix ix_seq (pv 10) pe_int (fun _ _ => rfl)) pe_str (nomark _)))) (fun _ _ _ _ _ => (pe_ix ix_seq (pe_ix ix_seq (pv 10) pe_int (fun _ _ => rfl)) pe_int (fun _ _ => rfl)))) (Evl.pss_cut (ps_if (pt_cmpR op_gt (pe_callB call_lenA (by rfl) T.zlen (by decide +kernel) (pa_cons (pv 2) pa_nil)) pe_int (nomark _)) (pss_cons (ps_if (pt_not (pt_val (pe_d D_law_stands hr0 pass0 (pa_cons (pe_ix ix_seq (pv 2) pe_int (fun _ _ => rfl)) (pa_cons (pv 7) (pa_cons (pv 8) pa_nil)))))) (pss_one (ps_ret (pe_tup (pa_cons pe_str (pa_cons (pv 6) pa_nil))))) pss_nil) (pss_cons (ps_set (i := 2) sc_law_read.nd rfl (Or.inl rfl) (pe_d D_law_waiting hr0 pass0 (pa_cons (pv 2) (pa_cons (pv 7) pa_nil)))) (pss_one (ps_expr (pe_bm PySem.F.plainAttrs_list PySem.F.slot_list_append PySem.F.type_list_append mt_append (pv 3) (pa_cons (pv 7) pa_nil)))))) (pss_one (ps_if (pt_cmpR opIn (pv 7) (pe_lst (pa_cons pe_str (pa_cons pe_str (pa_cons pe_str (pa_cons pe_str (pa_cons pe_str (pa_cons pe_str pa_nil))))))) (by rfl)) (pss_cons (ps_set (i := 4) sc_law_read.nd rfl (Or.inl rfl) (pe_op opAdd (pv 4) pe_int)) (pss_cons (ps_set (i := 3) sc_law_read.nd rfl (Or.inl rfl) (pe_lst (pa_cons (pv 7) pa_nil))) (pss_one (ps_set (i := 2) sc_law_read.nd rfl (Or.inl rfl) (pe_ix ix_seq (pe_lst (pa_cons (pe_lst (pa_cons pe_str pa_nil)) (pa_cons (pe_lst (pa_cons pe_str (pa_cons pe_str pa_nil))) (pa_cons (pe_lst (pa_cons pe_str (pa_cons pe_str pa_nil))) (pa_cons (pe_lst (pa_cons pe_str (pa_cons pe_str pa_nil))) pa_nil))))) (pe_d D_law_head hr0 pass0 (pa_cons (pv 7) pa_nil)) (fun _ _ => rfl)))))) (pss_one (ps_if (PW.pt (pw_and (pt_cmpR op_eq (pv 7) pe_str (nomark _)) (pw_and (pt_cmpR op_eq (pe_ix ix_seq (pe_ix ix_seq (pv 1) (pe_un un_neg pe_int) (fun _ _ => rfl)) pe_int (fun _ _ => rfl)) pe_str (nomark _)) (pw_and1 (pt_cmpR op_isNon (pe_ix ix_seq (pe_ix ix_seq (pv 1) (pe_un un_neg pe_int) (fun _ _ => rfl)) pe_int (fun _ _ => rfl)) pe_non (nomark _)))))) (pss_one (ps_asg (pe_lst (pa_cons pe_str (pa_cons (pe_ix ix_seq (pe_ix ix_seq (pv 1) (pe_un un_neg pe_int) (fun _ _ => rfl)) pe_int (fun _ _ => rfl)) (pa_cons (pe_lst pa_nil) (pa_cons (pe_ix ix_seq (pe_ix ix_seq (pv 1) (pe_un un_neg pe_int) (fun _ _ => rfl)) pe_int (fun _ _ => rfl)) pa_nil))))) (pg_sub (pv 1) (pe_un un_neg pe_int) set_list))) (pss_one (ps_if (PW.pt (pw_and (pt_cmpR op_eq (pv 7) pe_str (nomark _)) (pw_and1 (pt_cmpR op_gt (pe_callB call_lenA (by rfl) T.zlen (by decide +kernel) (pa_cons (pv 1) pa_nil)) pe_int (nomark _))))) (pss_cons (ps_set (i := 9) sc_law_read.nd rfl (Or.inl rfl) (pe_bm0 PySem.F.plainAttrs_list PySem.F.slot_list_pop PySem.F.type_list_pop mt_pop (pv 1))) (pss_one (ps_expr (pe_bm PySem.F.plainAttrs_list PySem.F.slot_list_append PySem.F.type_list_append mt_append (pe_ix ix_seq (pe_ix ix_seq (pv 1) (pe_un un_neg pe_int) (fun _ _ => rfl)) pe_int (fun _ _ => rfl)) (pa_cons (pe_d D_law_closed_statement hr0 pass0 (pa_cons (pv 9) pa_nil)) pa_nil))))) (pss_one (ps_ret (pe_tup (pa_cons pe_str (pa_cons (pv 6) pa_nil)))))))))))) (pss_one (ps_if (PW.pt (pw_and (pt_cmpR op_eq (pe_callB call_lenA (by rfl) T.zlen (by decide +kernel) (pa_cons (pv 2) pa_nil)) pe_int (nomark _)) (pw_and1 (pt_cmpR op_gt (pe_callB call_lenA (by rfl) T.zlen (by decide +kernel) (pa_cons (pv 3) pa_nil)) pe_int (nomark _))))) (Evl.pss_cut (ps_if (pt_cmpR opIn (pe_ix ix_seq (pv 3) pe_int (fun _ _ => rfl)) (pe_lst (pa_cons pe_str (pa_cons pe_str pa_nil))) (by rfl)) (pss_one (ps_expr (pe_bm PySem.F.plainAttrs_list PySem.F.slot_list_append PySem.F.type_list_append mt_append (pe_ix ix_seq (pe_ix ix_seq (pv 1) (pe_un un_neg pe_int) (fun _ _ => rfl)) pe_int (fun _ _ => rfl)) (pa_cons (pe_callTy call_tupOf (by rfl) T.ztuple (by decide +kernel) (pa_cons (pv 3) pa_nil)) pa_nil)))) (pss_cons (ps_expr (pe_bm PySem.F.plainAttrs_list PySem.F.slot_list_append PySem.F.type_list_append mt_append (pv 1) (pa_cons (pe_lst (pa_cons (pe_ix ix_seq (pv 3) pe_int (fun _ _ => rfl)) (pa_cons (pe_slice slAny (pv 3) (po_some pe_int) (po_some (pe_un un_neg pe_int))) (pa_cons (pe_lst pa_nil) (pa_cons pe_non pa_nil))))) pa_nil))) (pss_one (ps_set (i := 5) sc_law_read.nd rfl (Or.inl rfl) (pe_callB (call_mx rfl) (by rfl) T.zmax (by decide +kernel) (pa_cons (pv 5) (pa_cons (pe_op op_sub (pe_callB call_lenA (by rfl) T.zlen (by decide +kernel) (pa_cons (pv 1) pa_nil)) pe_int) pa_nil))))))) (pss_one (ps_set (i := 3) sc_law_read.nd rfl (Or.inl rfl) (pe_lst pa_nil)))) pss_nil)))))) (pss_cons (ps_if (PW.pt (pw_or (pt_cmpR op_gt (pe_callB call_lenA (by rfl) T.zlen (by decide +kernel) (pa_cons (pv 2) pa_nil)) pe_int (nomark _)) (pw_or1 (pt_cmpR op_gt (pe_callB call_lenA (by rfl) T.zlen (by decide +kernel) (pa_cons (pv 1) pa_nil)) pe_int (nomark _))))) (pss_one (ps_ret (pe_tup (pa_cons pe_str (pa_cons (pe_callB call_lenA (by rfl) T.zlen (by decide +kernel) (pa_cons (pv 0) pa_nil)) pa_nil))))) pss_nil) (pss_cons (ps_if (pt_cmpR op_gt (pv 4) pe_int (nomark _)) (pss_one (ps_ret (pe_tup (pa_cons pe_str (pa_cons (pv 4) (pa_cons pe_int pa_nil)))))) pss_nil) (pss_cons (ps_if (pt_cmpR op_gt (pv 5) pe_int (nomark _)) (pss_one (ps_ret (pe_tup (pa_cons pe_str (pa_cons (pv 5) (pa_cons pe_int pa_nil)))))) pss_nil) (pss_one (ps_ret (pe_tup (pa_cons pe_str (pa_cons (pe_callTy call_tupOf (by rfl) T.ztuple (by decide +kernel) (pa_cons (pe_ix ix_seq (pe_ix ix_seq (pv 1) pe_int (fun _ _ => rfl)) pe_int (fun _ _ => rfl)) pa_nil)) (pa_cons (pv 4) (pa_cons (pv 5) pa_nil)))))))))))))))), ?_⟩
  walk_at "cl"
  walk_at "rk"
  refine r_newL (by simp) fun pw H1 n1 k1 e1 => ?_
  walk_at "rk"
  refine r_newL (by simp) fun pc H2 n2 k2 e2 => ?_
  walk_at "rk"
  refine r_newL (by simp) fun a0 H3 n3 k3 e3 => ?_
  walk_at "rk"
  refine r_newL (by simp) fun pf H4 n4 k4 e4 => ?_
  walk_at "rk"
  refine r_newL (by simp) fun pq H5 n5 k5 e5 => ?_
  walk_at "rk"
  refine r_newL (by simp) fun pg H6 n6 k6 e6 => ?_
  walk_at "rk"
  have K6 := ((((k1.trans k2).trans k3).trans k4).trans k5).trans k6
  refine r_lenL (K6.sqL hx (by simp)) ?_
  walk_at "rk"
  refine r_rngE (by omega) (by rw [List.length_map]; omega) ?_
  have nx : ∀ {p p' : Addr} {H H' : Hp} {o : HO}, H p = none → H' p' = some o → Kp [] H' H → p ≠ p' := fun h1 h2 k e => by
    subst e
    rw [k.get h2 (by simp)] at h1
    cases h1
  have R0 : RdAt K H H6 pq pf pg [a0] m0.stk [a0, pw, pc] [] [] := by
    refine ⟨k6.get e5 (by simp), ((k5.trans k6).get e4 (by simp)), e6, ⟨[a0, pw, pc], [], by simp, ⟨"", [], pw, pc, [], .non, ((k4.trans k5).trans k6).get e3 (by simp), ((((k2.trans k3).trans k4).trans k5).trans k6).get e1 (by simp), (((k3.trans k4).trans k5).trans k6).get e2 (by simp), .nil, .inl ⟨rfl, rfl, rfl⟩, .inl ⟨rfl, rfl, rfl⟩⟩, rfl⟩, ?_, ?_, K6⟩
    · simp only [List.nodup_cons, List.mem_cons, List.not_mem_nil, or_false, not_or, List.nodup_nil, and_true, not_false_eq_true]
      exact ⟨⟨nx n5 e4 .refl, (nx n6 e5 .refl).symm, nx n5 e3 k4, nx n5 e1 ((k2.trans k3).trans k4), nx n5 e2 (k3.trans k4)⟩, ⟨(nx n6 e4 k5).symm, nx n4 e3 .refl, nx n4 e1 (k2.trans k3), nx n4 e2 k3⟩, ⟨nx n6 e3 (k4.trans k5), nx n6 e1 (((k2.trans k3).trans k4).trans k5), nx n6 e2 ((k3.trans k4).trans k5)⟩, ⟨nx n3 e1 k2, nx n3 e2 .refl⟩, (nx n2 e1 .refl).symm⟩
    · intro x hx2
      simp only [List.mem_cons, List.not_mem_nil, or_false] at hx2
      rcases hx2 with rfl | rfl | rfl | rfl | rfl | rfl
      · exact (((k1.trans k2).trans k3).trans k4).free0 n5
      · exact ((k1.trans k2).trans k3).free0 n4
      · exact ((((k1.trans k2).trans k3).trans k4).trans k5).free0 n6
      · exact (k1.trans k2).free0 n3
      · exact n1
      · exact k1.free0 n2
  rw [List.length_map, Int.toNat_natCast]
  refine for_range (lo := 0) (n := ws.length) (RdSt K a H ws) ⟨m0, pq, pf, pg, [a0], [a0, pw, pc], _, _, _, _, _, rfl, R0, m0_ok, rfl, Nat.zero_le _⟩ ?_ ?_
  · rintro i σ' H' hi ⟨ms, pq, pf, pg, as, ft, o6, o7, o8, o9, o10, rfl, R, mo, mt, mn⟩
    walk_at "rk"
    obtain ⟨z, ez⟩ : ∃ z, ws[i]? = some z := ⟨ws[i], List.getElem?_eq_getElem hi⟩
    have zl : z.length ≤ 100000 := hz z (List.mem_of_getElem? ez)
    have ed : ws.drop i = z :: ws.drop (i + 1) := by
      rw [List.drop_eq_getElem_cons hi]
      congr 1
      exact Option.some.inj ((List.getElem?_eq_getElem hi).symm.trans ez)
    rw [ed] at mt
    have dl : (ws.drop (i + 1)).length + 1 = ws.length - i := by rw [List.length_drop]; omega
    have nl : ms.stk.length ≤ i + 1 := by
      have h1 := stk_len mo.ok
      have h2 := mo.many
      omega
    have cl : ∀ f ∈ ms.stk, f.cur.length ≤ i := fun f hf => by
      have h1 := stk_cur hf
      have h2 := mo.many
      omega
    have lenA : as.length = ms.stk.length := R.st.len
    refine r_ixL (v := .str z) (R.kp.sqL hx (by simp)) ?_ ?_
    · rw [Int.zero_add]
      exact atI_nat (by rw [List.getElem?_map, ez]; rfl)
    walk_at "rk"
    refine ⟨_, rfl, pf, rfl, ⟨_, SqL.of R.f⟩, fun D0 hD => ?_⟩
    refine lc_list (K := K) (a := pf) (xs := as.reverse.map V.ref) (fun j H'' => Kp [] H' H'' ∧ H'' D0 = some (.lst (((ms.stk.reverse.take j).filterMap hv).map V.str))) ⟨Kp.new hD, by rw [upd_same]; rfl⟩ (fun j H'' _ ⟨k, _⟩ => SqL.of (k.get R.f (by simp))) ?_ ?_
    · rintro j x H'' hj ⟨k, e⟩
      obtain ⟨fa, fr, fo, rfl, hfr, hfa⟩ := R.st.getR hj
      obtain ⟨kk, wz, pw, pc, vo, h1, h2, h3, h4⟩ := (hfa.keep0 k).rd
      walk_at "rk"
      refine ⟨rfl, ?_⟩
      walk_at "rk"
      refine r_ixL (SqL.of h1) (atI_nat (j := 0) rfl) ?_
      walk_at "rk"
      have et : (ms.stk.reverse.take (j + 1)).filterMap hv = (ms.stk.reverse.take j).filterMap hv ++ (hv fr).toList := by
        rw [take_get hfr, List.filterMap_append]
        cases hh : hv fr <;> simp [hh]
      have hlen : ((ms.stk.reverse.take j).filterMap hv).length ≤ 200000 := by
        have h5 := List.length_filterMap_le hv (ms.stk.reverse.take j)
        rw [List.length_take, List.length_reverse] at h5
        omega
      obtain ⟨hd, cur, oth⟩ := fr
      simp only at h3
      rcases h3 with ⟨rfl, rfl, g3⟩ | h3
      · refine r_F (by decide +kernel) ?_
        refine ⟨k, ?_⟩
        rw [et, e]
        simp [hv]
      · cases h3 with
        | each =>
          next v =>
          refine r_T (by decide +kernel) ?_
          walk_at "rk"
          refine r_ixL (SqL.of h1) (atI_nat (j := 1) rfl) ?_
          walk_at "rk"
          refine r_ixL (v := .str v) (SqL.of h2) (atI_nat (j := 0) rfl) ?_
          refine ⟨_, e, szl (by rw [List.length_map]; omega), k.putN hD, ?_⟩
          rw [upd_same, et]
          simp [hv]
        | ife =>
          refine r_F (by decide +kernel) ?_
          refine ⟨k, ?_⟩
          rw [et, e]
          simp [hv]
        | whl =>
          refine r_F (by decide +kernel) ?_
          refine ⟨k, ?_⟩
          rw [et, e]
          simp [hv]
        | unt =>
          refine r_F (by decide +kernel) ?_
          refine ⟨k, ?_⟩
          rw [et, e]
          simp [hv]
    · rintro H'' ⟨k, e⟩
      replace R := R.keep0 k
      obtain ⟨sc', esc, hsc⟩ : ∃ sc' : List Str, H'' D0 = some (.lst (sc'.map V.str)) ∧ ∀ z, z ∈ sc' ↔ z ∈ scp ms.stk := by
        refine ⟨_, e, fun z => ?_⟩
        rw [List.take_of_length_le (by rw [List.length_map, List.length_reverse, List.length_reverse]; omega), scp_hv, List.mem_filterMap, List.mem_filterMap]
        simp only [List.mem_reverse]
      clear e k hD
      walk_at "rk"
      refine r_cut (RdMid K a H ws i) ?_ ?_
      · walk_at "rk"
        refine r_lenL (SqL.of R.q) ?_
        walk_at "rk"
        rw [List.length_map]
        cases hp : ms.pend with
        | some p =>
          obtain ⟨k0, r0, hw⟩ := wtg_cons p
          rw [hp] at R
          simp only [wtgO, bgnO] at R
          rw [hw] at R
          obtain ⟨hk0, hr0l⟩ := wtg_kind hw
          refine r_T (by simp [wtgO, hw]) ?_
          walk_at "rk"
          refine r_ixL (v := .str k0) (SqL.of R.q) (atI_nat (j := 0) rfl) ?_
          walk_at "rk"
          refine ⟨k0, z, D0, sc', rfl, SqL.of esc, zl, hk0, fun H1 k1 => ?_⟩
          replace R := R.keep0 k1
          have po := pnext_ok hsc p z
          rw [hw] at po
          obtain ⟨po1, po2⟩ := po
          rw [po1]
          have ms1 : mstep ms z = (pnext (scp ms.stk) p z).map (mgo ms) := by
            unfold mstep
            rw [hp]
          walk_at "rk"
          cases hn : pnext (scp ms.stk) p z with
          | none =>
            refine r_T (by rfl) ?_
            walk_at "rk"
            refine r_newT (by simp) fun p2 H2 n2 k2 e2 => ?_
            refine q _ _ ?_ (R.kp.trans k2)
            have er : readW ws = .bad ((ws.drop (i + 1)).length + 1) := by
              rw [← mt]
              simp only [mtot, ms1, hn, Option.map_none]
            rw [er, dl]
            refine dp_tup e2 (.cons (.str _) (.cons ?_ .nil))
            rw [show ((ws.length - (ws.length - i) : Nat) : Int) = 0 + (i : Int) by omega]
            exact .int _
          | some nx =>
            have hx2 := po2 nx hn
            have mt2 : mtot (mgo ms nx) (ws.drop (i + 1)) = readW ws := by
              rw [← mt]
              simp only [mtot, ms1, hn, Option.map_some]
            have mo2 : MSok (mgo ms nx) := mstep_ok mo (by rw [ms1, hn]; rfl)
            have mn2 : (mgo ms nx).many ≤ i + 1 := by
              have := mstep_many (s := ms) (w := z) (t := mgo ms nx) (by rw [ms1, hn]; rfl)
              omega
            refine r_F (by rfl) ?_
            walk_at "rk"
            refine ⟨pq, k0, r0, z, rfl, R.q, hr0l, fun p2 H2 n2 k2 e2 => ?_⟩
            have R2 := (R.keep0 k2).setQ k2 n2 (fun x hx => R.ne x (List.mem_cons_of_mem _ hx)) R.kp e2
            obtain ⟨⟨s1, s2, s3⟩, ⟨s4, s5⟩, s6, s7⟩ := R2.sep
            walk_at "rk"
            refine r_tyL (SqL.of R2.g) ?_
            walk_at "rk"
            refine r_appK R2.g (by rw [List.length_map]; have := bgn_len p; omega) fun H3 k3 e3 => ?_
            have R3 : RdAt K H H3 p2 pf pg as ms.stk ft (nextW (k0 :: r0) z) (bgn p ++ [z]) := by
              refine ⟨k3.get R2.q (by simpa using s2), k3.get R2.f (by simpa using s4), by rw [e3, List.map_append]; rfl, R2.st.keep k3 fun x hx hm => s6 ((List.mem_singleton.mp hm) ▸ hx), R2.nd, R2.fr, R2.kp.young k3 fun b hb => ?_⟩
              rw [List.mem_singleton.mp hb]
              exact R2.fr pg (by simp)
            cases nx with
            | more p' =>
              rw [← hw, hx2.1, hx2.2] at R3
              exact ⟨mgo ms (.more p'), mgo ms (.more p'), p2, pf, pg, as, ft, _, _, _, _, _, _, _, rfl, R3, mo2, mn2, .inl ⟨rfl, rfl, rfl⟩, mo2, mt2, mn2⟩
            | stm t =>
              cases t with
              | join x y =>
                rw [← hw, hx2.1, hx2.2] at R3
                exact ⟨ms, _, p2, pf, pg, as, ft, _, _, _, _, _, _, _, rfl, R3, mo, by omega, .inr ⟨rfl, .inl ⟨_, rfl, .inl ⟨x, y, rfl, rfl⟩⟩⟩, mo2, mt2, mn2⟩
              | clear x =>
                rw [← hw, hx2.1, hx2.2] at R3
                exact ⟨ms, _, p2, pf, pg, as, ft, _, _, _, _, _, _, _, rfl, R3, mo, by omega, .inr ⟨rfl, .inl ⟨_, rfl, .inr ⟨x, rfl, rfl⟩⟩⟩, mo2, mt2, mn2⟩
              | ite => exact hx2.elim
              | wh => exact hx2.elim
              | each => exact hx2.elim
            | opn h' =>
              obtain ⟨x1, kx, wz, x2, x3, x4⟩ := hx2
              rw [← hw, x1, x3] at R3
              exact ⟨ms, _, p2, pf, pg, as, ft, _, _, _, _, _, _, _, rfl, R3, mo, by omega, .inr ⟨rfl, .inr ⟨h', kx, wz, rfl, x2, rfl, x4⟩⟩, mo2, mt2, mn2⟩
        | none =>
          rw [hp] at R
          simp only [wtgO, bgnO] at R
          have msN : mstep ms z = mfree ms z := by
            unfold mstep
            rw [hp]
          refine r_F (by simp [wtgO]) ?_
          walk_at "rk"
          refine r_newL (by simp) fun p1 H1 n1 k1 e1 => ?_
          replace R := R.keep0 k1
          clear n1
          refine r_inL (xs := [kJoin, kClear, kEach, kIf, kWhile, kUntil].map V.str) (SqL.of e1) rfl (flat_strs _) ?_
          rw [inV_strs, ← begins_in]
          walk_at "rk"
          cases hb : begins z with
          | some p =>
            have hmf : mfree ms z = some { ms with pend := some p, many := ms.many + 1 } := by
              unfold mfree
              rw [hb]
            have mt2 : mtot { ms with pend := some p, many := ms.many + 1 } (ws.drop (i + 1)) = readW ws := by
              rw [← mt]
              simp only [mtot, msN, hmf]
            have mo2 : MSok { ms with pend := some p, many := ms.many + 1 } := mstep_ok mo (by rw [msN, hmf])
            have hbg : bgn p = [z] := by
              rcases begins_inv hb with ⟨rfl, rfl⟩ | ⟨rfl, rfl⟩ | ⟨rfl, rfl⟩ | ⟨rfl, rfl⟩ | ⟨rfl, rfl⟩ | ⟨rfl, rfl⟩ <;> rfl
            refine r_T rfl ?_
            walk_at "rk"
            refine r_newL (by simp) fun pg2 H2 n2 k2 e2 => ?_
            replace R : RdAt K H H2 pq pf pg2 as ms.stk ft [] [z] := (R.keep0 k2).setG k2 n2 R.ne R.kp e2
            walk_at "rk"
            refine r_newL (by simp) fun q0 H3 n3 k3 e3 => ?_
            walk_at "rk"
            refine r_newL (by simp) fun q1 H4 n4 k4 e4 => ?_
            walk_at "rk"
            refine r_newL (by simp) fun q2 H5 n5 k5 e5 => ?_
            walk_at "rk"
            refine r_newL (by simp) fun q3 H6 n6 k6 e6 => ?_
            walk_at "rk"
            refine r_newL (by simp) fun q4 H7 n7 k7 e7 => ?_
            walk_at "rk"
            have hh : z ∈ heads := by
              rcases begins_inv hb with ⟨rfl, _⟩ | ⟨rfl, _⟩ | ⟨rfl, _⟩ | ⟨rfl, _⟩ | ⟨rfl, _⟩ | ⟨rfl, _⟩ <;> decide +kernel
            refine ⟨z, rfl, hh, fun H8 k8 => ?_⟩
            have R8 : RdAt K H H8 pq pf pg2 as ms.stk ft [] [z] := R.keep0 (((((k3.trans k4).trans k5).trans k6).trans k7).trans k8)
            have fin : ∀ {qz : Addr} {Hb : Hp}, Kp [] H2 Hb → Hb qz = none → Kp [] Hb H8 → H8 qz = some (.lst ((wtg p).map V.str)) → RdMid K a H ws i [some (.ref a), some (.ref pf), some (.ref qz), some (.ref pg2), some (.int ((ms.many : Nat) + 1)), some (.int (ms.deep : Nat)), some (.int (0 + (i : Int))), some (.str z), some (.ref D0), o9, o10] H8 := fun {qz Hb} kb nb kb8 eq => by
              have R9 := R8.setQ kb8 nb (fun x hx => (R.keep0 kb).ne x (List.mem_cons_of_mem _ hx)) (R.kp.trans kb) eq
              refine ⟨{ ms with pend := some p, many := ms.many + 1 }, { ms with pend := some p, many := ms.many + 1 }, qz, pf, pg2, as, ft, _, _, _, _, _, _, _, rfl, R9, mo2, Nat.succ_le_succ mn, .inl ⟨rfl, rfl, ?_⟩, mo2, mt2, Nat.succ_le_succ mn⟩
              exact hbg.symm
            have e7' := k8.get e7 (by simp)
            rcases begins_inv hb with ⟨rfl, rfl⟩ | ⟨rfl, rfl⟩ | ⟨rfl, rfl⟩ | ⟨rfl, rfl⟩ | ⟨rfl, rfl⟩ | ⟨rfl, rfl⟩
            · refine r_ixL (v := .ref q1) (SqL.of e7') (by rw [show headN kJoin = ((1 : Nat) : Int) by decide +kernel]; exact atI_nat rfl) ?_
              exact fin k3 n4 (((k4.trans (k5.trans k6)).trans k7).trans k8) ((((k5.trans k6).trans k7).trans k8).get e4 (by simp))
            · refine r_ixL (v := .ref q0) (SqL.of e7') (by rw [show headN kClear = ((0 : Nat) : Int) by decide +kernel]; exact atI_nat rfl) ?_
              exact fin .refl n3 (((k3.trans k4).trans (k5.trans k6)).trans (k7.trans k8)) (((((k4.trans k5).trans k6).trans k7).trans k8).get e3 (by simp))
            · refine r_ixL (v := .ref q2) (SqL.of e7') (by rw [show headN kEach = ((2 : Nat) : Int) by decide +kernel]; exact atI_nat rfl) ?_
              exact fin (k3.trans k4) n5 (((k5.trans k6).trans k7).trans k8) (((k6.trans k7).trans k8).get e5 (by simp))
            · refine r_ixL (v := .ref q3) (SqL.of e7') (by rw [show headN kIf = ((3 : Nat) : Int) by decide +kernel]; exact atI_nat rfl) ?_
              exact fin ((k3.trans k4).trans k5) n6 ((k6.trans k7).trans k8) ((k7.trans k8).get e6 (by simp))
            · refine r_ixL (v := .ref q3) (SqL.of e7') (by rw [show headN kWhile = ((3 : Nat) : Int) by decide +kernel]; exact atI_nat rfl) ?_
              exact fin ((k3.trans k4).trans k5) n6 ((k6.trans k7).trans k8) ((k7.trans k8).get e6 (by simp))
            · refine r_ixL (v := .ref q3) (SqL.of e7') (by rw [show headN kUntil = ((3 : Nat) : Int) by decide +kernel]; exact atI_nat rfl) ?_
              exact fin ((k3.trans k4).trans k5) n6 ((k6.trans k7).trans k8) ((k7.trans k8).get e6 (by simp))
          | none =>
            refine r_F rfl ?_
            walk_at "rk"
            have hmf : mfree ms z = if z = kElse then (mElse ms.stk).map fun k => { ms with stk := k } else if z = kEnd then (mEnd ms.stk).map fun k => { ms with stk := k } else none := by
              unfold mfree
              rw [hb]
            obtain ⟨f1, rst, es⟩ : ∃ f r, ms.stk = f :: r := by
              cases h : ms.stk with
              | nil => exact absurd h mo.ne
              | cons f r => exact ⟨f, r, rfl⟩
            rw [es] at R
            obtain ⟨a1, as', fo1, fo2, rfl, rfl, hfa, hsr⟩ := R.st.top
            have Rf := R.f
            rw [rev_cons] at Rf
            have bad : mstep ms z = none → ∀ {H2 : Hp} {p2 : Addr}, Kp [] H1 H2 → H2 p2 = some (.tup [.str "BadText", .int (0 + (i : Int))]) → Q (.ref p2) H2 := fun hm {H2 p2} k2 e2 => by
              refine q _ _ ?_ (R.kp.trans k2)
              have er : readW ws = .bad ((ws.drop (i + 1)).length + 1) := by
                rw [← mt]
                simp only [mtot, hm]
              rw [er, dl]
              refine dp_tup e2 (.cons (.str _) (.cons ?_ .nil))
              rw [show ((ws.length - (ws.length - i) : Nat) : Int) = 0 + (i : Int) by omega]
              exact .int _
            refine r_d (fun c1 => ?_) (fun c1 => ?_)
            · obtain rfl : z = kElse := c1
              rw [if_pos rfl] at hmf
              obtain ⟨kk, wz, pw1, pc1, cs1, vo1, h1, h2, h3, h4, h5, h6⟩ := hfa.ex
              walk_at "rk"
              refine r_ixL (SqL.of Rf) (atI_last _ _) ?_
              walk_at "rk"
              refine r_ixL (SqL.of h1) (atI_nat (j := 0) rfl) ?_
              walk_at "rk"
              refine r_d (fun c2 => ?_) (fun c2 => ?_)
              · have hif := h5.if_iff.mp c2
                obtain ⟨hd, cur, oth⟩ := f1
                cases hd with
                | root => exact hif.elim
                | each v => exact hif.elim
                | whl t => exact hif.elim
                | ife t =>
                  walk_at "rk"
                  refine r_ixL (SqL.of Rf) (atI_last _ _) ?_
                  walk_at "rk"
                  refine r_ixL (SqL.of h1) (atI_nat (j := 3) rfl) ?_
                  walk_at "rk"
                  rcases h6 with ⟨a1', rfl, rfl⟩ | ⟨b, pb, bs, a1', rfl, a3, a4, rfl⟩
                  · simp only at a1'
                    subst a1'
                    refine r_T (by decide +kernel) ?_
                    walk_at "rk"
                    refine r_ixL (SqL.of Rf) (atI_last _ _) ?_
                    walk_at "rk"
                    refine r_ixL (SqL.of h1) (atI_nat (j := 1) rfl) ?_
                    walk_at "rk"
                    refine r_newL (by simp) fun pc2 H2 n2 k2 e2 => ?_
                    walk_at "rk"
                    refine r_ixL (SqL.of (k2.get Rf (by simp))) (atI_last _ _) ?_
                    walk_at "rk"
                    refine r_ixL (SqL.of (k2.get h1 (by simp))) (atI_nat (j := 2) rfl) ?_
                    walk_at "rk"
                    refine r_newL (by simp) fun a2 H3 n3 k3 e3 => ?_
                    walk_at "rk"
                    refine r_setLK ((k2.trans k3).get Rf (by simp)) fun H4 k4 e4 => ?_
                    have R3 := R.keep0 (k2.trans k3)
                    have dp2 : ∀ x ∈ pq :: pf :: pg :: ([a1, pw1, pc1] ++ fo2), x ≠ pc2 := fun x hx e => R.ne x hx (e ▸ n2)
                    have da2 : ∀ x ∈ pq :: pf :: pg :: ([a1, pw1, pc1] ++ fo2), x ≠ a2 := fun x hx e => (R.keep0 k2).ne x hx (e ▸ n3)
                    have d22 : a2 ≠ pc2 := fun e => by
                      subst e
                      rw [e2] at n3
                      cases n3
                    have nd := R.nd
                    simp only [List.cons_append, List.nil_append, List.nodup_cons, List.mem_cons, not_or] at nd
                    obtain ⟨⟨q1, q2, q3, q4, q5, q6⟩, ⟨q7, q8, q9, qa, qb⟩, ⟨qc, qd, qe, qf⟩, ⟨qg, qh, qi⟩, ⟨qj, qk⟩, ql, qm⟩ := nd
                    have dpf := dp2 pf (by simp)
                    have daf := da2 pf (by simp)
                    have k4' : ∀ {x : Addr} {o : HO}, H3 x = some o → x ≠ pf → H4 x = some o := fun h hn => k4.get h (by simpa using hn)
                    have R4 : RdAt K H H4 pq pf pg (a2 :: as') (⟨.ife t, [], some cur⟩ :: rst) ([a2, pw1, pc2, pc1] ++ fo2) [] [] := by
                      refine ⟨k4' R3.q q1, by rw [e4, rev_cons], k4' R3.g (Ne.symm q7), ⟨_, _, rfl, ⟨kk, wz, pw1, pc2, [], .ref pc1, ?_, k4' ((k2.trans k3).get h2 (by simp)) (Ne.symm q9), k4' (k3.get e2 (by simp)) (Ne.symm dpf), .nil, h5, .inr ⟨cur, pc1, cs1, rfl, rfl, k4' ((k2.trans k3).get h3 (by simp)) (Ne.symm qa), dps_keep ((k2.trans k3).all.trans k4) _ _ (flat_L cur) h4, rfl⟩⟩, (hsr.keep (k2.trans k3) (by simp)).keep k4 fun x hx hm => qb (List.mem_singleton.mp hm ▸ hx)⟩, ?_, ?_, (R3.kpy (x := pf) (by simp) k4)⟩
                      · have e3' := k4' e3 (Ne.symm daf)
                        rw [show kk = Str.ofString "if" from c2]
                        exact e3'
                      · simp only [List.cons_append, List.nil_append, List.nodup_cons, List.mem_cons, not_or]
                        refine ⟨⟨q1, q2, da2 pq (by simp), q4, dp2 pq (by simp), q5, q6⟩, ⟨q7, daf, q9, dpf, qa, qb⟩, ⟨da2 pg (by simp), qd, dp2 pg (by simp), qe, qf⟩, ⟨Ne.symm (da2 pw1 (by simp)), d22, Ne.symm (da2 pc1 (by simp)), fun hm => da2 a2 (by simp [hm]) rfl⟩, ⟨dp2 pw1 (by simp), qj, qk⟩, ⟨Ne.symm (dp2 pc1 (by simp)), fun hm => dp2 pc2 (by simp [hm]) rfl⟩, ql, qm⟩
                      · intro x hx
                        have hf := R.fr
                        simp only [List.cons_append, List.nil_append, List.mem_cons] at hx hf
                        rcases hx with rfl | rfl | rfl | rfl | rfl | rfl | rfl | hx
                        · exact hf _ (by simp)
                        · exact hf _ (by simp)
                        · exact hf _ (by simp)
                        · exact (R.kp.trans k2).free0 n3
                        · exact hf _ (by simp)
                        · exact R.kp.free0 n2
                        · exact hf _ (by simp)
                        · exact hf _ (by simp [hx])
                    have hme : mElse ms.stk = some (⟨.ife t, [], some cur⟩ :: rst) := by rw [es]; rfl
                    rw [hme] at hmf
                    have mt2 : mtot { ms with stk := ⟨.ife t, [], some cur⟩ :: rst } (ws.drop (i + 1)) = readW ws := by
                      rw [← mt]
                      simp only [mtot, msN, hmf, Option.map_some]
                    have mo2 : MSok { ms with stk := ⟨.ife t, [], some cur⟩ :: rst } := mstep_ok mo (w := kElse) (by rw [msN, hmf]; rfl)
                    exact ⟨{ ms with stk := ⟨.ife t, [], some cur⟩ :: rst }, { ms with stk := ⟨.ife t, [], some cur⟩ :: rst }, pq, pf, pg, a2 :: as', _, _, _, _, _, _, _, _, rfl, R4, mo2, Nat.le_succ_of_le mn, .inl ⟨rfl, by simp only [hp, wtgO], by simp only [hp, bgnO]⟩, mo2, mt2, Nat.le_succ_of_le mn⟩
                  · simp only at a1'
                    subst a1'
                    refine r_F (decide_eq_false (by simp)) ?_
                    have hme : mElse ms.stk = none := by rw [es]; rfl
                    walk_at "rk"
                    refine r_F (by decide +kernel) ?_
                    walk_at "rk"
                    refine r_newT (by simp) fun p2 H2 n2 k2 e2 => ?_
                    exact bad (by rw [msN, hmf, hme]; rfl) k2 e2
              · have hme : mElse ms.stk = none := by
                  rw [es]
                  obtain ⟨hd, cur, oth⟩ := f1
                  cases hd with
                  | ife t => exact absurd (h5.if_iff.mpr trivial) c2
                  | root => rfl
                  | each v => rfl
                  | whl t => rfl
                walk_at "rk"
                refine r_F (by decide +kernel) ?_
                walk_at "rk"
                refine r_newT (by simp) fun p2 H2 n2 k2 e2 => ?_
                exact bad (by rw [msN, hmf, hme]; rfl) k2 e2
            · have c1' : ¬ z = kElse := c1
              rw [if_neg c1'] at hmf
              walk_at "rk"
              refine r_d (fun c2 => ?_) (fun c2 => ?_)
              · obtain rfl : z = kEnd := c2
                rw [if_pos rfl] at hmf
                walk_at "rk"
                refine r_lenL (SqL.of R.f) ?_
                walk_at "rk"
                cases rst with
                | nil =>
                  have : as' = [] := List.eq_nil_of_length_eq_zero hsr.len
                  subst this
                  refine r_F (by simp) ?_
                  walk_at "rk"
                  refine r_newT (by simp) fun p2 H2 n2 k2 e2 => ?_
                  exact bad (by rw [msN, hmf, es]; rfl) k2 e2
                | cons g rst =>
                  obtain ⟨a2, as2, fo3, fo4, rfl, rfl, hfg, hsr2⟩ := hsr.top
                  refine r_T (by simp; omega) ?_
                  walk_at "rk"
                  refine r_tyL (SqL.of R.f) ?_
                  refine r_popK (y := .ref a1) Rf (by simp) fun H2 k2 e2 => ?_
                  rw [List.dropLast_concat] at e2
                  obtain ⟨⟨s1, s2, s3⟩, ⟨s4, s5⟩, s6, s7⟩ := R.sep
                  obtain ⟨okf, okr⟩ : (okHd (scp (g :: rst)) f1.hd ∧ (f1.oth ≠ none → isIf f1.hd) ∧ f1.hd ≠ .root) ∧ True := by
                    have := mo.ok
                    rw [es] at this
                    obtain ⟨⟨_, _, h3, h4, h5⟩, _⟩ := this
                    refine ⟨⟨h3, h4, fun e => ?_⟩, trivial⟩
                    rw [e] at h5
                    exact absurd (h5.mp trivial) (by simp)
                  have R2 : RdAt K H H2 pq pf pg (a2 :: as2) (g :: rst) (fo3 ++ fo4) [] [] := by
                    refine ⟨k2.get R.q (by simpa using s1), e2, k2.get R.g (by simpa using Ne.symm s4), hsr.keep k2 fun x hx hm => s5 (List.mem_append_right _ (List.mem_singleton.mp hm ▸ hx)), ?_, fun x hx => R.fr x ?_, R.kpy (x := pf) (by simp) k2⟩
                    · have := R.nd
                      simp only [List.nodup_cons, List.mem_cons, List.mem_append, not_or] at this ⊢
                      obtain ⟨⟨t1, t2, t3, t4⟩, ⟨t5, t6, t7⟩, ⟨t8, t9⟩, ta⟩ := this
                      exact ⟨⟨t1, t2, t4⟩, ⟨t5, t7⟩, t9, (List.nodup_append.mp ta).2.1⟩
                    · simp only [List.mem_cons, List.mem_append] at hx ⊢
                      rcases hx with h | h | h | h
                      · exact .inl h
                      · exact .inr (.inl h)
                      · exact .inr (.inr (.inl h))
                      · exact .inr (.inr (.inr (.inr h)))
                  have lg : g.cur.length < 1000000 := by
                    have := cl g (by rw [es]; simp)
                    omega
                  obtain ⟨xs, a3, kk3, pw3, pc3, vo3, cs3, g1, g2, g3, g4, g5⟩ := R2.add lg
                  walk_at "rk"
                  refine r_ixL (SqL.of g1) (atI_last _ _) ?_
                  walk_at "rk"
                  refine r_ixL (SqL.of g2) (atI_nat (j := 2) rfl) ?_
                  refine r_tyL (SqL.of g3) ?_
                  walk_at "rk"
                  refine ⟨a1, f1, fo1, scp (g :: rst), rfl, hfa.keep k2 (fun x hx hm => s5 (List.mem_append_left _ (List.mem_singleton.mp hm ▸ hx))), okf.2.2, okf.1, okf.2.1, fun v H3 dv k3 => ?_⟩
                  walk_at "rk"
                  refine r_appK (k3.get g3 (by simp)) g4 fun H4 k4 e4 => ?_
                  have R4 := g5 v (clo f1) H3 H4 k3 dv k4 e4
                  have hme : mEnd ms.stk = some (addS (clo f1) (g :: rst)) := by rw [es]; rfl
                  rw [hme] at hmf
                  have mt2 : mtot { ms with stk := addS (clo f1) (g :: rst) } (ws.drop (i + 1)) = readW ws := by
                    rw [← mt]
                    simp only [mtot, msN, hmf, Option.map_some]
                  have mo2 : MSok { ms with stk := addS (clo f1) (g :: rst) } := mstep_ok mo (w := kEnd) (by rw [msN, hmf]; rfl)
                  exact ⟨{ ms with stk := addS (clo f1) (g :: rst) }, { ms with stk := addS (clo f1) (g :: rst) }, pq, pf, pg, a2 :: as2, _, _, _, _, _, _, _, _, rfl, R4, mo2, Nat.le_succ_of_le mn, .inl ⟨rfl, by simp only [hp, wtgO], by simp only [hp, bgnO]⟩, mo2, mt2, Nat.le_succ_of_le mn⟩
              · have c2' : ¬ z = kEnd := c2
                rw [if_neg c2'] at hmf
                walk_at "rk"
                refine r_newT (by simp) fun p2 H2 n2 k2 e2 => ?_
                exact bad (by rw [msN, hmf]) k2 e2
      · clear mt mn nl cl lenA
        rintro σ' H1 ⟨ms1, ms2, pq, pf, pg, as, ft, wl, bg, o6, o7, o8, o9, o10, rfl, R, mo1, mn1, mid, mo2, mt2, mn2⟩
        walk_at "rk"
        refine r_lenL (SqL.of R.q) ?_
        walk_at "rk"
        rw [List.length_map]
        rcases mid with ⟨rfl, rfl, rfl⟩ | ⟨rfl, mid⟩
        · have out : RdSt K a H ws (i + 1) [some (.ref a), some (.ref pf), some (.ref pq), some (.ref pg), some (.int (ms1.many : Nat)), some (.int (ms1.deep : Nat)), o6, o7, o8, o9, o10] H1 := ⟨ms1, pq, pf, pg, as, ft, _, _, _, _, _, rfl, R, mo1, mt2, mn2⟩
          cases hp : ms1.pend with
          | some p =>
            obtain ⟨k0, r0, hw⟩ := wtg_cons p
            refine r_F (by simp [wtgO, hw]; omega) ?_
            walk_at "rk"
            exact out
          | none =>
            refine r_T (by simp [wtgO]) ?_
            walk_at "rk"
            refine r_lenL (SqL.of R.g) ?_
            walk_at "rk"
            refine r_F (by simp [hp, bgnO]) ?_
            walk_at "rk"
            exact out
        · refine r_T (by simp) ?_
          walk_at "rk"
          refine r_lenL (SqL.of R.g) ?_
          walk_at "rk"
          obtain ⟨f1, rst, es⟩ : ∃ f r, ms1.stk = f :: r := by
            cases h : ms1.stk with
            | nil => exact absurd h mo1.ne
            | cons f r => exact ⟨f, r, rfl⟩
          have lg : f1.cur.length < 1000000 := by
            have h1 := stk_cur (stk := ms1.stk) (f := f1) (by rw [es]; simp)
            have h2 := mo1.many
            omega
          rcases mid with ⟨t, rfl, ht⟩ | ⟨h', k0, wz, rfl, hh, rfl, hk1, hk2⟩
          · obtain ⟨k0, r0, rfl, hk, hdt⟩ : ∃ k0 r0, bg = k0 :: r0 ∧ [kJoin, kClear].contains k0 = true ∧ (dS t = .tuple ((k0 :: r0).map PyData.str)) := by
              rcases ht with ⟨x, y, rfl, rfl⟩ | ⟨x, rfl, rfl⟩
              · exact ⟨_, _, rfl, by decide +kernel, by simp [dS]⟩
              · exact ⟨_, _, rfl, by decide +kernel, by simp [dS]⟩
            refine r_T (by simp) ?_
            walk_at "rk"
            refine r_cut (fun σ' H' => ∃ o7 o8 o9 o10, σ' = [some (.ref a), some (.ref pf), some (.ref pq), some (.ref pg), some (.int (ms1.many : Nat)), some (.int (ms1.deep : Nat)), o6, o7, o8, o9, o10] ∧ RdAt K H H' pq pf pg as (addS t ms1.stk) ft [] (k0 :: r0)) ?_ ?_
            · walk_at "rk"
              refine r_ixL (v := .str k0) (SqL.of R.g) (atI_nat (j := 0) rfl) ?_
              walk_at "rk"
              refine r_newL (by simp) fun p2 H2 n2 k2 e2 => ?_
              replace R := R.keep0 k2
              refine r_inL (xs := [kJoin, kClear].map V.str) (SqL.of e2) rfl (flat_strs _) ?_
              rw [inV_strs, hk]
              walk_at "rk"
              rw [es] at R ⊢
              obtain ⟨xs, a3, kk3, pw3, pc3, vo3, cs3, g1, g2, g3, g4, g5⟩ := R.add lg
              refine r_ixL (SqL.of g1) (atI_last _ _) ?_
              walk_at "rk"
              refine r_ixL (SqL.of g2) (atI_nat (j := 2) rfl) ?_
              refine r_tyL (SqL.of g3) ?_
              walk_at "rk"
              refine r_tupOfK (SqL.of R.g) fun p3 H3 n3 k3 e3 => ?_
              walk_at "rk"
              refine r_appK (k3.get g3 (by simp)) g4 fun H4 k4 e4 => ?_
              exact ⟨_, _, _, _, rfl, g5 (.ref p3) t H3 H4 k3 (by rw [hdt]; exact dp_tup e3 (DpAll.strs _)) k4 e4⟩
            · rintro σ' H5 ⟨o7, o8, o9, o10, rfl, R5⟩
              walk_at "rk"
              refine r_newL (by simp) fun p6 H6 n6 k6 e6 => ?_
              have R6 := (R5.keep0 k6).setG (bg' := []) k6 n6 R5.ne R5.kp e6
              exact ⟨mgo ms1 (.stm t), pq, pf, p6, as, ft, _, _, _, _, _, rfl, R6, mo2, mt2, mn2⟩
          · refine r_T (by simp; omega) ?_
            walk_at "rk"
            have hk : [kJoin, kClear].contains k0 = false := by
              rw [Bool.eq_false_iff]
              intro h
              rw [List.contains_iff_mem] at h
              simp only [List.mem_cons, List.not_mem_nil, or_false] at h
              exact h.elim hk1 hk2
            refine r_cut (fun σ' H' => ∃ as' ft' o7 o8 o9 o10, σ' = [some (.ref a), some (.ref pf), some (.ref pq), some (.ref pg), some (.int (ms1.many : Nat)), some (.int (max ms1.deep ms1.stk.length : Nat)), o6, o7, o8, o9, o10] ∧ RdAt K H H' pq pf pg as' (⟨h', [], none⟩ :: ms1.stk) ft' [] (k0 :: (wz ++ [kDo]))) ?_ ?_
            · walk_at "rk"
              refine r_ixL (v := .str k0) (SqL.of R.g) (atI_nat (j := 0) rfl) ?_
              walk_at "rk"
              refine r_newL (by simp) fun p2 H2 n2 k2 e2 => ?_
              replace R := R.keep0 k2
              refine r_inL (xs := [kJoin, kClear].map V.str) (SqL.of e2) rfl (flat_strs _) ?_
              rw [inV_strs, hk]
              walk_at "rk"
              refine r_tyL (SqL.of R.f) ?_
              walk_at "rk"
              refine r_ixL (v := .str k0) (SqL.of R.g) (atI_nat (j := 0) rfl) ?_
              walk_at "rk"
              refine r_slLK (SqL.of R.g) fun p3 H3 n3 k3 e3 => ?_
              rw [List.map_cons, List.map_append, show [kDo].map V.str = [V.str kDo] from rfl, cut_mid] at e3
              walk_at "rk"
              refine r_newL (by simp) fun p4 H4 n4 k4 e4 => ?_
              walk_at "rk"
              refine r_newL (by simp) fun p5 H5 n5 k5 e5 => ?_
              walk_at "rk"
              have K5 := (k3.trans k4).trans k5
              have R5 := R.keep0 K5
              refine r_appK R5.f (by rw [List.length_map, List.length_reverse, R5.st.len]; have h1 := stk_len mo1.ok; have h2 := mo1.many; omega) fun H6 k6 e6 => ?_
              obtain ⟨⟨s1, s2, s3⟩, ⟨s4, s5⟩, s6, s7⟩ := R.sep
              have d3 : ∀ x ∈ pq :: pf :: pg :: ft, x ≠ p3 := fun x hx e => R.ne x hx (e ▸ n3)
              have d4 : ∀ x ∈ pq :: pf :: pg :: ft, x ≠ p4 := fun x hx e => (R.keep0 k3).ne x hx (e ▸ n4)
              have d5 : ∀ x ∈ pq :: pf :: pg :: ft, x ≠ p5 := fun x hx e => (R.keep0 (k3.trans k4)).ne x hx (e ▸ n5)
              have d34 : p4 ≠ p3 := fun e => by
                subst e
                rw [e3] at n4
                cases n4
              have d35 : p5 ≠ p3 := fun e => by
                subst e
                rw [k4.get e3 (by simp)] at n5
                cases n5
              have d45 : p5 ≠ p4 := fun e => by
                subst e
                rw [e4] at n5
                cases n5
              have g6 : ∀ {x : Addr} {o : HO}, H5 x = some o → x ≠ pf → H6 x = some o := fun h hn => k6.get h (by simpa using hn)
              have R6 : RdAt K H H6 pq pf pg (p5 :: as) (⟨h', [], none⟩ :: ms1.stk) ([p5, p3, p4] ++ ft) [] (k0 :: (wz ++ [kDo])) := by
                refine ⟨g6 R5.q s1, by rw [e6, rev_cons], g6 R5.g (Ne.symm s4), ⟨_, _, rfl, ⟨k0, wz, p3, p4, [], .non, g6 e5 (Ne.symm (d5 pf (by simp))), g6 ((k4.trans k5).get e3 (by simp)) (Ne.symm (d3 pf (by simp))), g6 (k5.get e4 (by simp)) (Ne.symm (d4 pf (by simp))), .nil, .inr hh, .inl ⟨rfl, rfl, rfl⟩⟩, R5.st.keep k6 fun x hx hm => s5 (List.mem_singleton.mp hm ▸ hx)⟩, ?_, ?_, R5.kpy (x := pf) (by simp) k6⟩
                · have nd := R.nd
                  simp only [List.cons_append, List.nil_append, List.nodup_cons, List.mem_cons, not_or] at nd ⊢
                  obtain ⟨⟨t1, t2, t3⟩, ⟨t4, t5⟩, t6, t7⟩ := nd
                  exact ⟨⟨t1, t2, d5 pq (by simp), d3 pq (by simp), d4 pq (by simp), t3⟩, ⟨t4, d5 pf (by simp), d3 pf (by simp), d4 pf (by simp), t5⟩, ⟨d5 pg (by simp), d3 pg (by simp), d4 pg (by simp), t6⟩, ⟨d35, d45, fun hm => d5 p5 (by simp [hm]) rfl⟩, ⟨Ne.symm d34, fun hm => d3 p3 (by simp [hm]) rfl⟩, fun hm => d4 p4 (by simp [hm]) rfl, t7⟩
                · intro x hx
                  simp only [List.cons_append, List.nil_append, List.mem_cons] at hx
                  rcases hx with rfl | rfl | rfl | rfl | rfl | rfl | hx
                  · exact R.fr _ (by simp)
                  · exact R.fr _ (by simp)
                  · exact R.fr _ (by simp)
                  · exact (R.kp.trans (k3.trans k4)).free0 n5
                  · exact R.kp.free0 n3
                  · exact (R.kp.trans k3).free0 n4
                  · exact R.fr _ (by simp [hx])
              walk_at "rk"
              refine r_lenL (SqL.of R6.f) ?_
              walk_at "rk"
              refine ⟨p5 :: as, _, o7, o8, o9, o10, ?_, R6⟩
              have em : (max (ms1.deep : Int) (((List.map V.ref (p5 :: as).reverse).length : Nat) - 1 : Int)) = ((max ms1.deep ms1.stk.length : Nat) : Int) := by
                rw [List.length_map, List.length_reverse, List.length_cons, R.st.len]
                omega
              rw [em]
              rfl
            · rintro σ' H5 ⟨as', ft', o7, o8, o9, o10, rfl, R5⟩
              walk_at "rk"
              refine r_newL (by simp) fun p6 H6 n6 k6 e6 => ?_
              have R6 := (R5.keep0 k6).setG (bg' := []) k6 n6 R5.ne R5.kp e6
              exact ⟨mgo ms1 (.opn h'), pq, pf, p6, as', ft', _, _, _, _, _, rfl, R6, mo2, mt2, mn2⟩
  · rintro σ' H' ⟨ms, pq, pf, pg, as, ft, o6, o7, o8, o9, o10, rfl, R, mo, mt, mn⟩
    walk_at "rk"
    rw [List.drop_length] at mt
    refine r_lenL (SqL.of R.q) ?_
    walk_at "rk"
    have bad : (ms.pend.isSome = true ∨ 1 < ms.stk.length) → ∀ {H2 : Hp} {p2 : Addr}, Kp [] H' H2 → H2 p2 = some (.tup [.str "BadText", .int ((ws.map V.str).length : Nat)]) → Q (.ref p2) H2 := fun hm {H2 p2} k2 e2 => by
      refine q _ _ ?_ (R.kp.trans k2)
      have er : readW ws = .bad 0 := by
        rw [← mt]
        simp only [mtot, mend, if_pos hm]
      rw [er]
      refine dp_tup e2 (.cons (.str _) (.cons ?_ .nil))
      rw [List.length_map]
      exact .int _
    rw [List.length_map]
    cases hp : ms.pend with
    | some p =>
      obtain ⟨k0, r0, hw⟩ := wtg_cons p
      refine r_T (by simp [wtgO, hw]) ?_
      walk_at "rk"
      refine r_lenL (R.kp.sqL hx (by simp)) ?_
      walk_at "rk"
      refine r_newT (by simp) fun p2 H2 n2 k2 e2 => ?_
      exact bad (.inl (by rw [hp]; rfl)) k2 e2
    | none =>
      refine r_F (by simp [wtgO]) ?_
      walk_at "rk"
      refine r_lenL (SqL.of R.f) ?_
      walk_at "rk"
      rw [List.length_map, List.length_reverse, R.st.len]
      refine r_d (fun c1 => ?_) (fun c1 => ?_)
      · walk_at "rk"
        refine r_lenL (R.kp.sqL hx (by simp)) ?_
        walk_at "rk"
        refine r_newT (by simp) fun p2 H2 n2 k2 e2 => ?_
        exact bad (.inr (by omega)) k2 e2
      · have hne : ¬ (ms.pend.isSome = true ∨ 1 < ms.stk.length) := by
          rw [hp]
          rintro (h | h)
          · cases h
          · omega
        have er : readW ws = if 12 < ms.many then .many ms.many else if 3 < ms.deep then .deep ms.deep else .told (rootOf ms.stk) ms.many ms.deep := by
          rw [← mt]
          simp only [mtot, mend, if_neg hne]
        walk_at "rk"
        refine r_d (fun c2 => ?_) (fun c2 => ?_)
        · walk_at "rk"
          refine r_newT (by simp) fun p2 H2 n2 k2 e2 => ?_
          refine q _ _ ?_ (R.kp.trans k2)
          rw [er, if_pos (by omega)]
          exact dp_tup e2 (.cons (.str _) (.cons (.int _) (.cons (.int _) .nil)))
        walk_at "rk"
        refine r_d (fun c3 => ?_) (fun c3 => ?_)
        · walk_at "rk"
          refine r_newT (by simp) fun p2 H2 n2 k2 e2 => ?_
          refine q _ _ ?_ (R.kp.trans k2)
          rw [er, if_neg (by omega), if_pos (by omega)]
          exact dp_tup e2 (.cons (.str _) (.cons (.int _) (.cons (.int _) .nil)))
        walk_at "rk"
        obtain ⟨f1, es⟩ : ∃ f, ms.stk = [f] := by
          cases h : ms.stk with
          | nil => exact absurd h mo.ne
          | cons f r =>
            cases r with
            | nil => exact ⟨f, rfl⟩
            | cons g r => rw [h] at c1; simp at c1; omega
        have Rs := R.st
        rw [es] at Rs er
        obtain ⟨a1, as', fo1, fo2, rfl, rfl, hfa, hsr⟩ := Rs.top
        obtain rfl : as' = [] := List.eq_nil_of_length_eq_zero hsr.len
        obtain ⟨kk, wz, pw1, pc1, cs1, vo1, h1, h2, h3, h4, h5, h6⟩ := hfa.ex
        refine r_ixL (v := .ref a1) (SqL.of R.f) (atI_nat (j := 0) rfl) ?_
        walk_at "rk"
        refine r_ixL (SqL.of h1) (atI_nat (j := 2) rfl) ?_
        walk_at "rk"
        refine r_tupOfK (SqL.of h3) fun p3 H3 n3 k3 e3 => ?_
        walk_at "rk"
        refine r_newT (by simp) fun p2 H2 n2 k2 e2 => ?_
        refine q _ _ ?_ (R.kp.trans (k3.trans k2))
        rw [er, if_neg (by omega), if_neg (by omega)]
        exact dp_tup e2 (.cons (.str _) (.cons (dp_tup (k2.tup e3) (dps_keep (k3.trans k2) _ _ (flat_L _) h4)) (.cons (.int _) (.cons (.int _) .nil))))
end
end Hj
end
section
set_option Elab.async false
set_option linter.all false
set_option maxRecDepth 100000
set_option maxHeartbeats 2000000
namespace Hj
open PySem PySem.Spec L2
/-! ### objects: readings -/
section
variable {K : PySem.W.Frag} {σ : St} {H : Hp} {D : Ends} {ta te : TE} {Q : VK} {x y v : V} {f : Str} {a C dx : Addr} {fs : List (Str × V)} {N : Hp → Prop}
def fldR (K : PySem.W.Frag) (f : Str) (x : V) (H : Hp) (Q : VK) : Prop := ∃ a C dx fs v, x = .ref a ∧ H a = some (.ins C dx fs) ∧ Cls K C ∧ NoAttr K C f ∧ fs.lookup f = some v ∧ Q v H
theorem r_fldK (h : ta σ H fun x H1 => fldR K f x H1 Q) : tFld K ta f σ H Q := h
theorem r_get (ho : H a = some (.ins C dx fs)) (c : Cls K C) (n : NoAttr K C f) (l : fs.lookup f = some v) (h : Q v H) : fldR K f (.ref a) H Q := ⟨a, C, dx, fs, v, rfl, ho, c, n, l, h⟩
def putR (K : PySem.W.Frag) (f : Str) (x y : V) (H : Hp) (N : Hp → Prop) : Prop := ∃ a C dx fs, x = .ref a ∧ H a = some (.ins C dx fs) ∧ Cls K C ∧ NoAttr K C f ∧ fs.length < 1000 ∧ N (upd H a (.ins C dx (putF f y fs)))
theorem r_setK (h : te σ H fun y H1 => ta σ H1 fun x H2 => putR K f x y H2 (D.nx σ)) : sFld K ta te f D σ H := h
theorem r_laid (ho : H a = some (.ins C dx fs)) (c : Cls K C) (n : NoAttr K C f) (l : fs.length < 1000) (h : ∀ H2, Kp [a] H H2 → H2 a = some (.ins C dx (putF f y fs)) → N H2) : putR K f (.ref a) y H N :=
  ⟨a, C, dx, fs, rfl, ho, c, n, l, h _ (Kp.put (by simp) ho (fun z => z)) upd_same⟩
theorem r_aug {i : Nat} {m n : Int} (hv : σ[i]? = some (some (.ref a))) (ho : H a = some (.ins C dx fs)) (c : Cls K C) (na : NoAttr K C f) (l : fs.lookup f = some (.int m)) (hl : fs.length < 1000) (h : ∀ H2, Kp [a] H H2 → H2 a = some (.ins C dx (putF f (.int (m + n)) fs)) → D.nx σ H2) : sFldAug K (tVar i) (tC (.int n)) rAdd f D σ H :=
  ⟨_, hv, a, C, dx, fs, _, rfl, ho, c, na, l, ⟨m, n, rfl, rfl, dx, fs, ho, hl, h _ (Kp.put (by simp) ho (fun z => z)) upd_same⟩⟩
def mkB (C : Addr) (vs : List V) (H : Hp) (Q : XK) : Prop := ∃ v, vs = [v] ∧ ∀ d, H d = none → Q (.ref C) (some d) (upd H d (.xd [(("place" : Str), v)]))
def mkM (C : Addr) (vs : List V) (H : Hp) (Q : XK) : Prop := ∃ v u, vs = [v, u] ∧ ∀ d, H d = none → Q (.ref C) (some d) (upd H d (.xd [(("limit" : Str), u), (("count" : Str), v)]))
theorem r_mkB {tg : TA} {QX : XK} (h : tg σ H fun vs H1 => mkB C vs H1 QX) : tMkB C tg σ H QX := h
theorem r_mkM {tg : TA} {QX : XK} (h : tg σ H fun vs H1 => mkM C vs H1 QX) : tMkM C tg σ H QX := h
theorem r_chain {r r' : R2} {tb tc : TE} (h : ta σ H fun x H1 => tb σ H1 fun y H2 => r x y H2 fun z H3 => ∃ k, z = .bl k ∧ (if k = true then tc σ H3 fun w' H4 => r' y w' H4 Q else Q (.bl false) H3)) : tChain r r' ta tb tc σ H Q := h
theorem r_leS {a b : Str} (h : Q (.bl (!decide (b.cps.toList < a.cps.toList))) H) : rLeS (.str a) (.str b) H Q := ⟨a, b, rfl, rfl, h⟩
theorem putF_len (f : Str) (v : V) : ∀ fs : List (Str × V), (putF f v fs).length ≤ fs.length + 1
  | [] => Nat.le_refl _
  | (g, x) :: r => by
    have := putF_len f v r
    unfold putF
    split <;> simp <;> omega
theorem putF_ok {f : Str} {v : V} {fs : List (Str × V)} {n : Nat} (h : fs.length ≤ n) : (putF f v fs).length ≤ n + 1 := Nat.le_trans (putF_len f v fs) (by omega)
end
end Hj
end
section
set_option Elab.async false
set_option linter.all false
set_option maxRecDepth 100000
set_option maxHeartbeats 8000000
local macro_rules | `(tactic| walk_at "rd") => `(tactic| repeat (first
  | with_reducible refine Hj.r_seq ?_
  | with_reducible refine Hj.r_nx ?_
  | with_reducible refine Hj.r_rt ?_
  | with_reducible refine L2.iteT ?_
  | with_reducible refine L2.iteF ?_
  | with_reducible refine Hj.r_set ?_
  | with_reducible refine Hj.r_gname ?_
  | with_reducible refine Hj.r_if ?_
  | with_reducible refine Hj.r_ret ?_
  | ((with_reducible show L2.tVar _ _ _ _); refine Hj.r_var rfl ?_)
  | with_reducible refine Hj.r_c ?_
  | with_reducible refine Hj.r_cons ?_
  | with_reducible refine Hj.r_nil ?_
  | with_reducible refine Hj.r_op ?_
  | with_reducible refine Hj.r_test ?_
  | with_reducible refine Hj.r_B ?_
  | with_reducible refine Hj.r_cb ?_
  | with_reducible refine Hj.r_blV ?_
  | with_reducible refine Hj.r_and ?_
  | with_reducible refine Hj.r_or ?_
  | with_reducible refine Hj.r_not ?_
  | with_reducible refine Hj.r_call ?_
  | with_reducible refine Hj.r_tup ?_
  | with_reducible refine Hj.r_lst ?_
  | with_reducible refine Hj.r_eqS ?_
  | with_reducible refine Hj.r_eqI ?_
  | with_reducible refine Hj.r_neS ?_
  | with_reducible refine Hj.r_neI ?_
  | with_reducible refine Hj.r_isN ?_
  | with_reducible refine Hj.r_I0 ?_
  | with_reducible refine Hj.r_addI ?_
  | with_reducible refine Hj.r_intOf ?_
  | with_reducible refine Hj.r_mx ?_
  | with_reducible refine Hj.r_un ?_
  | with_reducible refine Hj.r_neg ?_
  | with_reducible refine Hj.r_drop ?_
  | with_reducible refine Hj.r_next ?_
  | with_reducible refine Hj.r_retN ?_
  | with_reducible refine Hj.r_sub ?_
  | with_reducible refine Hj.r_asg ?_
  | with_reducible refine Hj.r_bm ?_
  | with_reducible refine Hj.r_bm0 ?_
  | with_reducible refine Hj.r_meth ?_
  | with_reducible refine Hj.r_make ?_
  | with_reducible refine Hj.r_fldK ?_
  | with_reducible refine Hj.r_setK ?_
  | with_reducible refine Hj.r_sl ?_
  | with_reducible refine Hj.r_no ?_
  | with_reducible refine Hj.r_mkB ?_
  | with_reducible refine Hj.r_chain ?_
  | with_reducible refine Hj.r_leS ?_
  | with_reducible refine Hj.r_mkM ?_
  | with_reducible refine Hj.r_part ?_
  | with_reducible refine Hj.r_partI ?_
  | with_reducible refine Hj.r_m1 ?_
  | with_reducible refine Hj.r_strs ?_
  | with_reducible refine Hj.r_andV ?_
  | with_reducible refine Hj.r_orV ?_
  | with_reducible refine Hj.r_notV ?_
  | with_reducible refine Hj.r_for ?_
  | with_reducible refine Hj.r_rng ?_
  | with_reducible refine Hj.r_itL ?_
  | with_reducible refine Hj.r_itT ?_
  | with_reducible refine Hj.r_itS ?_
  | with_reducible refine Hj.r_itSE ?_))
local macro_rules | `(tactic| walk_at "rk") => `(tactic| repeat (first
  | with_reducible refine Hj.r_seq ?_
  | with_reducible refine Hj.r_nx ?_
  | with_reducible refine Hj.r_rt ?_
  | with_reducible refine L2.iteT ?_
  | with_reducible refine L2.iteF ?_
  | with_reducible refine Hj.r_set ?_
  | with_reducible refine Hj.r_gname ?_
  | with_reducible refine Hj.r_if ?_
  | with_reducible refine Hj.r_ret ?_
  | ((with_reducible show L2.tVar _ _ _ _); refine Hj.r_var rfl ?_)
  | with_reducible refine Hj.r_c ?_
  | with_reducible refine Hj.r_cons ?_
  | with_reducible refine Hj.r_nil ?_
  | with_reducible refine Hj.r_op ?_
  | with_reducible refine Hj.r_test ?_
  | with_reducible refine Hj.r_B ?_
  | with_reducible refine Hj.r_cb ?_
  | with_reducible refine Hj.r_blV ?_
  | with_reducible refine Hj.r_and ?_
  | with_reducible refine Hj.r_or ?_
  | with_reducible refine Hj.r_not ?_
  | with_reducible refine Hj.r_call ?_
  | with_reducible refine Hj.r_tupK ?_
  | with_reducible refine Hj.r_lstK ?_
  | with_reducible refine Hj.r_eqS ?_
  | with_reducible refine Hj.r_eqI ?_
  | with_reducible refine Hj.r_neS ?_
  | with_reducible refine Hj.r_neI ?_
  | with_reducible refine Hj.r_isN ?_
  | with_reducible refine Hj.r_I0 ?_
  | with_reducible refine Hj.r_addI ?_
  | with_reducible refine Hj.r_intOf ?_
  | with_reducible refine Hj.r_mx ?_
  | with_reducible refine Hj.r_un ?_
  | with_reducible refine Hj.r_neg ?_
  | with_reducible refine Hj.r_drop ?_
  | with_reducible refine Hj.r_next ?_
  | with_reducible refine Hj.r_retN ?_
  | with_reducible refine Hj.r_sub ?_
  | with_reducible refine Hj.r_asg ?_
  | with_reducible refine Hj.r_bm ?_
  | with_reducible refine Hj.r_bm0 ?_
  | with_reducible refine Hj.r_meth ?_
  | with_reducible refine Hj.r_make ?_
  | with_reducible refine Hj.r_fldK ?_
  | with_reducible refine Hj.r_setK ?_
  | with_reducible refine Hj.r_sl ?_
  | with_reducible refine Hj.r_no ?_
  | with_reducible refine Hj.r_mkB ?_
  | with_reducible refine Hj.r_chain ?_
  | with_reducible refine Hj.r_leS ?_
  | with_reducible refine Hj.r_mkM ?_
  | with_reducible refine Hj.r_part ?_
  | with_reducible refine Hj.r_partI ?_
  | with_reducible refine Hj.r_m1 ?_
  | with_reducible refine Hj.r_strs ?_
  | with_reducible refine Hj.r_andV ?_
  | with_reducible refine Hj.r_orV ?_
  | with_reducible refine Hj.r_notV ?_
  | with_reducible refine Hj.r_for ?_
  | with_reducible refine Hj.r_rng ?_
  | with_reducible refine Hj.r_itL ?_
  | with_reducible refine Hj.r_itT ?_
  | with_reducible refine Hj.r_itS ?_
  | with_reducible refine Hj.r_itSE ?_))
local macro_rules | `(tactic| walk_at "cl") => `(tactic| ((try dsimp only [L2.cxOf, L2.Cx.nox]); simp only [L2.start, List.map, List.length, List.replicate, List.cons_append, List.nil_append, Nat.reduceAdd, Nat.reduceSub]))
local macro_rules | `(tactic| walk_at "len") => `(tactic| (intro vs H Q E h; first
  | (obtain ⟨_, ee, _⟩ := h; subst ee; rfl) | (obtain ⟨_, _, ee, _⟩ := h; subst ee; rfl) | (obtain ⟨_, _, _, ee, _⟩ := h; subst ee; rfl) | (obtain ⟨_, _, _, _, ee, _⟩ := h; subst ee; rfl) | (obtain ⟨_, _, _, _, _, ee, _⟩ := h; subst ee; rfl) | (obtain ⟨_, _, _, _, _, _, ee, _⟩ := h; subst ee; rfl)
  | (obtain ⟨_, _, _, _, _, _, _, ee, _⟩ := h; subst ee; rfl) | (obtain ⟨_, _, _, _, _, _, _, _, ee, _⟩ := h; subst ee; rfl) | (obtain ⟨_, _, _, _, _, _, _, _, _, ee, _⟩ := h; subst ee; rfl) | (obtain ⟨_, _, _, _, _, _, _, _, _, _, ee, _⟩ := h; subst ee; rfl)))
namespace Hj
open PySem PySem.Spec L2
section
variable {P : Program} {w : World} {K : PySem.W.Frag} {mg : Str → Option Value} {base : Heap}
/-! ### the program's blocks -/
def bfs (k : Str) (vt : V) (pc po : Addr) (t : Bool) : List (Str × V) := [("block_word", .str k), ("block_thing", vt), ("block_body", .ref pc), ("block_other", .ref po), ("block_turned", .bl t)]
inductive BHd (K : PySem.W.Frag) (H : Hp) : Hd → Str → V → Prop
  | root : BHd K H .root "" (.str "")
  | each {v} : BHd K H (.each v) kEach (.str v)
  | ife {t vt} : Dp K H vt (dT t) → BHd K H (.ife t) kIf vt
  | whl {t vt} : Dp K H vt (dT t) → BHd K H (.whl t) kWhile vt
theorem BHd.keep {S : List Addr} {H H' : Hp} {h : Hd} {k : Str} {v : V} (b : BHd K H h k v) (kp : Kp S H H') : BHd K H' h k v := by
  cases b with
  | root => exact .root
  | each => exact .each
  | ife d => exact .ife (dp_keep kp _ _ (flat_T _) d)
  | whl d => exact .whl (dp_keep kp _ _ (flat_T _) d)
structure BlkAt (K : PySem.W.Frag) (H : Hp) (b : Addr) (f : Fr) (fo : List Addr) : Prop where
  ex : ∃ (k : Str) (vt : V) (pc po dx : Addr) (t : Bool) (cs os : List V), H b = some (.ins (cB K) dx (bfs k vt pc po t)) ∧ BHd K H f.hd k vt ∧ H pc = some (.lst cs) ∧ H po = some (.lst os) ∧ fo = [b, pc, po] ∧
    ((f.oth = none ∧ t = false ∧ DpAll K H cs (dL f.cur) ∧ os = []) ∨ ∃ b', f.oth = some b' ∧ t = true ∧ DpAll K H cs (dL b') ∧ DpAll K H os (dL f.cur))
theorem BlkAt.keep {S : List Addr} {H H' : Hp} {a : Addr} {f : Fr} {fo : List Addr} (h : BlkAt K H a f fo) (k : Kp S H H') (hs : ∀ x ∈ fo, x ∉ S) : BlkAt K H' a f fo := by
  obtain ⟨kk, vt, pc, po, dx, t, cs, os, h1, h2, h3, h4, rfl, h6⟩ := h.ex
  refine ⟨kk, vt, pc, po, dx, t, cs, os, k.get h1 (hs _ (by simp)), h2.keep k, k.get h3 (hs _ (by simp)), k.get h4 (hs _ (by simp)), rfl, ?_⟩
  rcases h6 with ⟨a1, a2, a3, a4⟩ | ⟨b, a1, a2, a3, a4⟩
  · exact .inl ⟨a1, a2, dps_keep k _ _ (flat_L _) a3, a4⟩
  · exact .inr ⟨b, a1, a2, dps_keep k _ _ (flat_L _) a3, dps_keep k _ _ (flat_L _) a4⟩
theorem BlkAt.ne {H : Hp} {a : Addr} {f : Fr} {fo : List Addr} (h : BlkAt K H a f fo) : ∀ x ∈ fo, H x ≠ none := by
  obtain ⟨kk, vt, pc, po, dx, t, cs, os, h1, h2, h3, h4, rfl, h6⟩ := h.ex
  intro x hx
  simp only [List.mem_cons, List.not_mem_nil, or_false] at hx
  rcases hx with rfl | rfl | rfl
  · rw [h1]; simp
  · rw [h3]; simp
  · rw [h4]; simp
def spBInit (K : PySem.W.Frag) : Sp := fun vs H Q _ => ∃ (x dx : Addr) (k : Str) (vt : V), vs = [.ref x, .str k, vt] ∧ H x = some (.ins (cB K) dx []) ∧ ∀ (pc po : Addr) (H' : Hp), H pc = none → H po = none → pc ≠ po → Kp [x] H H' → H' x = some (.ins (cB K) dx (bfs k vt pc po false)) → H' pc = some (.lst []) → H' po = some (.lst []) → Q .non H'
theorem sc_OpenBlock__init : FnScope ["self", "word", "thing"] ["self", "word", "thing"] (defScope s_OpenBlock_init) := ⟨rfl, rfl, rfl, by decide +kernel, rfl, by decide +kernel, by decide +kernel⟩
theorem ok_BInit {f : Addr} {fd : FuncData} (F : Fun K "__init__" "OpenBlock.__init__" s_OpenBlock_init f fd) (T : Txt P K mg) : FnOk P w K mg base CX0 1 f fd ["self", "word", "thing"] (spBInit K) := by
  refine F.ok sc_OpenBlock__init ?_ (fun cdv A outer s H vs Q E hr0 h => ?_)
  · walk_at "len"
  obtain ⟨x, dx, k, vt, rfl, h1, q⟩ := h
  refine ⟨_, (pss_cons (ps_fld (pv 0) (pv 1) rfl) (pss_cons (ps_fld (pv 0) (pv 2) rfl) (pss_cons (ps_fld (pv 0) (pe_lst pa_nil) rfl) (pss_cons (ps_fld (pv 0) (pe_lst pa_nil) rfl) (pss_one (ps_fld (pv 0) pe_bl rfl)))))), ?_⟩
  walk_at "cl"
  walk_at "rk"
  refine r_laid h1 T.clB T.bW (by decide) fun H2 k2 e2 => ?_
  walk_at "rk"
  refine r_laid e2 T.clB T.bT (Nat.lt_of_le_of_lt (putF_ok (n := 0) (by simp)) (by decide)) fun H3 k3 e3 => ?_
  walk_at "rk"
  refine r_newL (by simp) fun pc H4 n4 k4 e4 => ?_
  walk_at "rk"
  have e4' := k4.get e3 (by simp)
  have nc : pc ≠ x := fun e => by
    subst e
    rw [e3] at n4
    cases n4
  refine r_laid e4' T.clB T.bB (Nat.lt_of_le_of_lt (putF_ok (putF_ok (n := 0) (by simp))) (by decide)) fun H5 k5 e5 => ?_
  walk_at "rk"
  refine r_newL (by simp) fun po H6 n6 k6 e6 => ?_
  walk_at "rk"
  have no : po ≠ x := fun e => by
    subst e
    rw [e5] at n6
    cases n6
  have ec5 := k5.get e4 (by simpa using nc)
  refine r_laid (k6.get e5 (by simp)) T.clB T.bO (Nat.lt_of_le_of_lt (putF_ok (putF_ok (putF_ok (n := 0) (by simp)))) (by decide)) fun H7 k7 e7 => ?_
  walk_at "rk"
  refine r_laid e7 T.clB T.bU (Nat.lt_of_le_of_lt (putF_ok (putF_ok (putF_ok (putF_ok (n := 0) (by simp))))) (by decide)) fun H8 k8 e8 => ?_
  have K5 : Kp [x] H H5 := ((k2.trans k3).trans k4.all).trans k5
  have K8 : Kp [x] H H8 := ((K5.trans k6.all).trans k7).trans k8
  refine q pc po H8 ?_ ?_ ?_ K8 e8 ?_ ?_
  · exact (k2.trans k3).free n4 fun b hb _ => by
      rw [List.mem_singleton.mp hb, e3]
      simp
  · exact K5.free n6 fun b hb _ => by
      rw [List.mem_singleton.mp hb, e5]
      simp
  · intro e
    subst e
    rw [ec5] at n6
    cases n6
  · exact k8.get (k7.get (k6.get ec5 (by simp)) (by simpa using nc)) (by simpa using nc)
  · exact k8.get (k7.get e6 (by simpa using no)) (by simpa using no)
/-- the parts of a block, to be read and written -/
theorem lk_bfs (k : Str) (vt : V) (pc po : Addr) (t : Bool) : (bfs k vt pc po t).lookup ("block_word" : Str) = some (.str k) ∧ (bfs k vt pc po t).lookup ("block_thing" : Str) = some vt ∧ (bfs k vt pc po t).lookup ("block_body" : Str) = some (.ref pc) ∧ (bfs k vt pc po t).lookup ("block_other" : Str) = some (.ref po) ∧ (bfs k vt pc po t).lookup ("block_turned" : Str) = some (.bl t) := ⟨rfl, rfl, rfl, rfl, rfl⟩
theorem put_bfs (k : Str) (vt : V) (pc po : Addr) (t u : Bool) : putF "block_turned" (.bl u) (bfs k vt pc po t) = bfs k vt pc po u := rfl
/-! add_statement -/
def spBAdd (K : PySem.W.Frag) : Sp := fun vs H Q _ => ∃ (b : Addr) (f : Fr) (fo : List Addr) (v : V) (t : Stm), vs = [.ref b, v] ∧ BlkAt K H b f fo ∧ fo.Nodup ∧ f.cur.length < 1000000 ∧ Dp K H v (dS t) ∧ ∀ (pc : Addr) (H' : Hp), pc ∈ fo → Kp [pc] H H' → BlkAt K H' b { f with cur := f.cur ++ [t] } fo → Q .non H'
theorem sc_OpenBlock_add_statement : FnScope ["self", "statement"] ["self", "statement"] (defScope s_OpenBlock_add_statement) := ⟨rfl, rfl, rfl, by decide +kernel, rfl, by decide +kernel, by decide +kernel⟩
theorem ok_BAdd {f : Addr} {fd : FuncData} (F : Fun K "add_statement" "OpenBlock.add_statement" s_OpenBlock_add_statement f fd) (T : Txt P K mg) : FnOk P w K mg base CX0 1 f fd ["self", "statement"] (spBAdd K) := by
  refine F.ok sc_OpenBlock_add_statement ?_ (fun cdv A outer s H vs Q E hr0 h => ?_)
  · walk_at "len"
  obtain ⟨b, f1, fo, v, st, rfl, B, nd, hl, dv, q⟩ := h
  obtain ⟨k, vt, pc, po, dx, t, cs, os, h1, h2, h3, h4, rfl, h6⟩ := B.ex
  obtain ⟨l1, l2, l3, l4, l5⟩ := lk_bfs k vt pc po t
  simp only [List.nodup_cons, List.mem_cons, List.not_mem_nil, or_false, not_or] at nd
  refine ⟨_, (pss_one (ps_if (pt_val (pe_fld (pv 0) rfl)) (pss_one (ps_expr (pe_bm PySem.F.plainAttrs_list PySem.F.slot_list_append PySem.F.type_list_append mt_append (pe_fld (pv 0) rfl) (pa_cons (pv 1) pa_nil)))) (pss_one (ps_expr (pe_bm PySem.F.plainAttrs_list PySem.F.slot_list_append PySem.F.type_list_append mt_append (pe_fld (pv 0) rfl) (pa_cons (pv 1) pa_nil)))))), ?_⟩
  walk_at "cl"
  walk_at "rk"
  refine r_get h1 T.clB T.bU l5 ?_
  walk_at "rk"
  rcases h6 with ⟨a1, rfl, a3, rfl⟩ | ⟨b', a1, rfl, a3, a4⟩
  · refine r_F rfl ?_
    walk_at "rk"
    refine r_get h1 T.clB T.bB l3 ?_
    refine r_tyL (SqL.of h3) ?_
    walk_at "rk"
    have lc : cs.length = f1.cur.length := by rw [DpAll.len a3, dL_len]
    refine r_appK h3 (by omega) fun H2 k2 e2 => ?_
    refine q pc H2 (by simp) k2 ⟨k, vt, pc, po, dx, false, _, [], k2.get h1 (by simpa using nd.1.1), h2.keep k2, e2, k2.get h4 (by simpa using Ne.symm nd.2.1), rfl, .inl ⟨a1, rfl, ?_, rfl⟩⟩
    rw [dL_app]
    exact DpAll.app (dps_keep k2 _ _ (flat_L _) a3) (.cons (dp_keep k2 _ _ (flat_S _) dv) .nil)
  · refine r_T rfl ?_
    walk_at "rk"
    refine r_get h1 T.clB T.bO l4 ?_
    refine r_tyL (SqL.of h4) ?_
    walk_at "rk"
    have lc : os.length = f1.cur.length := by rw [DpAll.len a4, dL_len]
    refine r_appK h4 (by omega) fun H2 k2 e2 => ?_
    refine q po H2 (by simp) k2 ⟨k, vt, pc, po, dx, true, cs, _, k2.get h1 (by simpa using nd.1.2), h2.keep k2, k2.get h3 (by simpa using nd.2.1), e2, rfl, .inr ⟨b', a1, rfl, dps_keep k2 _ _ (flat_L _) a3, ?_⟩⟩
    rw [dL_app]
    exact DpAll.app (dps_keep k2 _ _ (flat_L _) a4) (.cons (dp_keep k2 _ _ (flat_S _) dv) .nil)
/-! closed_statement -/
def spBClosed (K : PySem.W.Frag) : Sp := fun vs H Q _ => ∃ (b : Addr) (f : Fr) (fo : List Addr), vs = [.ref b] ∧ BlkAt K H b f fo ∧ f.hd ≠ .root ∧ (f.oth ≠ none → isIf f.hd) ∧ ∀ (v : V) (H' : Hp), Dp K H' v (dS (clo f)) → Kp [] H H' → Q v H'
theorem sc_OpenBlock_closed_statement : FnScope ["self", "body"] ["self"] (defScope s_OpenBlock_closed_statement) := ⟨rfl, rfl, rfl, by decide +kernel, rfl, by decide +kernel, by decide +kernel⟩
theorem ok_BClosed {f : Addr} {fd : FuncData} (F : Fun K "closed_statement" "OpenBlock.closed_statement" s_OpenBlock_closed_statement f fd) (T : Txt P K mg) : FnOk P w K mg base CX0 1 f fd ["self"] (spBClosed K) := by
  refine F.ok sc_OpenBlock_closed_statement ?_ (fun cdv A outer s H vs Q E hr0 h => ?_)
  · walk_at "len"
  obtain ⟨b, f1, fo, rfl, B, hnr, hot, q⟩ := h
  obtain ⟨k, vt, pc, po, dx, t, cs, os, h1, h2, h3, h4, rfl, h6⟩ := B.ex
  obtain ⟨l1, l2, l3, l4, l5⟩ := lk_bfs k vt pc po t
  obtain ⟨hd, cur, oth⟩ := f1
  simp only at h2 h6 hnr hot
  refine ⟨_, (pss_cons (ps_set (i := 1) sc_OpenBlock_closed_statement.nd rfl (Or.inl rfl) (pe_callTy call_tupOf (by rfl) T.ztuple (by decide +kernel) (pa_cons (pe_fld (pv 0) rfl) pa_nil))) (pss_cons (ps_if (pt_cmpR op_eq (pe_fld (pv 0) rfl) pe_str (nomark _)) (pss_one (ps_ret (pe_tup (pa_cons pe_str (pa_cons (pe_fld (pv 0) rfl) (pa_cons (pv 1) (pa_cons (pe_callTy call_tupOf (by rfl) T.ztuple (by decide +kernel) (pa_cons (pe_fld (pv 0) rfl) pa_nil)) pa_nil))))))) pss_nil) (pss_one (ps_ret (pe_tup (pa_cons (pe_fld (pv 0) rfl) (pa_cons (pe_fld (pv 0) rfl) (pa_cons (pv 1) pa_nil)))))))), ?_⟩
  walk_at "cl"
  walk_at "rk"
  refine r_get h1 T.clB T.bB l3 ?_
  walk_at "rk"
  refine r_tupOfK (SqL.of h3) fun p1 H1 n1 k1 e1 => ?_
  walk_at "rk"
  refine r_get (k1.get h1 (by simp)) T.clB T.bW l1 ?_
  walk_at "rk"
  cases h2 with
  | root => exact absurd rfl hnr
  | each =>
    have ho : oth = none := by
      cases oth with
      | none => rfl
      | some b => exact absurd (hot (by simp)) (by simp [isIf])
    subst ho
    rcases h6 with ⟨a1, rfl, a3, rfl⟩ | ⟨b', a1, rfl, a3, a4⟩
    · refine r_F (by decide +kernel) ?_
      walk_at "rk"
      refine r_get (k1.get h1 (by simp)) T.clB T.bW l1 ?_
      walk_at "rk"
      refine r_get (k1.get h1 (by simp)) T.clB T.bT l2 ?_
      walk_at "rk"
      refine r_newT (by simp) fun p2 H2 n2 k2 e2 => ?_
      exact q _ _ (dp_tup e2 (.cons (.str _) (.cons (.str _) (.cons (dp_tup (k2.tup e1) (dps_keep (k1.trans k2) _ _ (flat_L _) a3)) .nil)))) (k1.trans k2)
    · cases a1
  | whl dt =>
    have ho : oth = none := by
      cases oth with
      | none => rfl
      | some b => exact absurd (hot (by simp)) (by simp [isIf])
    subst ho
    rcases h6 with ⟨a1, rfl, a3, rfl⟩ | ⟨b', a1, rfl, a3, a4⟩
    · refine r_F (by decide +kernel) ?_
      walk_at "rk"
      refine r_get (k1.get h1 (by simp)) T.clB T.bW l1 ?_
      walk_at "rk"
      refine r_get (k1.get h1 (by simp)) T.clB T.bT l2 ?_
      walk_at "rk"
      refine r_newT (by simp) fun p2 H2 n2 k2 e2 => ?_
      exact q _ _ (dp_tup e2 (.cons (.str _) (.cons (dp_keep (k1.trans k2) _ _ (flat_T _) dt) (.cons (dp_tup (k2.tup e1) (dps_keep (k1.trans k2) _ _ (flat_L _) a3)) .nil)))) (k1.trans k2)
    · cases a1
  | ife dt =>
    refine r_T (by decide +kernel) ?_
    walk_at "rk"
    refine r_get (k1.get h1 (by simp)) T.clB T.bT l2 ?_
    walk_at "rk"
    refine r_get (k1.get h1 (by simp)) T.clB T.bO l4 ?_
    walk_at "rk"
    refine r_tupOfK (SqL.of (k1.get h4 (by simp))) fun p2 H2 n2 k2 e2 => ?_
    walk_at "rk"
    refine r_newT (by simp) fun p3 H3 n3 k3 e3 => ?_
    have K3 := (k1.trans k2).trans k3
    refine q _ _ ?_ K3
    rcases h6 with ⟨rfl, rfl, a3, rfl⟩ | ⟨b', rfl, rfl, a3, a4⟩
    · exact dp_tup e3 (.cons (.str _) (.cons (dp_keep K3 _ _ (flat_T _) dt) (.cons (dp_tup ((k2.trans k3).tup e1) (dps_keep K3 _ _ (flat_L _) a3)) (.cons (dp_tup (k3.tup e2) .nil) .nil))))
    · exact dp_tup e3 (.cons (.str _) (.cons (dp_keep K3 _ _ (flat_T _) dt) (.cons (dp_tup ((k2.trans k3).tup e1) (dps_keep K3 _ _ (flat_L _) a3)) (.cons (dp_tup (k3.tup e2) (dps_keep K3 _ _ (flat_L _) a4)) .nil))))
/-! takes_else -/
def tkE (f : Fr) : Bool := match f.hd, f.oth with
  | .ife _, none => true
  | _, _ => false
def spBElse (K : PySem.W.Frag) : Sp := fun vs H Q _ => ∃ (b : Addr) (f : Fr) (fo : List Addr), vs = [.ref b] ∧ BlkAt K H b f fo ∧ ∀ (H' : Hp), Kp [] H H' → Q (.bl (tkE f)) H'
theorem sc_OpenBlock_takes_else : FnScope ["self"] ["self"] (defScope s_OpenBlock_takes_else) := ⟨rfl, rfl, rfl, by decide +kernel, rfl, by decide +kernel, by decide +kernel⟩
theorem ok_BElse {f : Addr} {fd : FuncData} (F : Fun K "takes_else" "OpenBlock.takes_else" s_OpenBlock_takes_else f fd) (T : Txt P K mg) : FnOk P w K mg base CX0 1 f fd ["self"] (spBElse K) := by
  refine F.ok sc_OpenBlock_takes_else ?_ (fun cdv A outer s H vs Q E hr0 h => ?_)
  · walk_at "len"
  obtain ⟨b, f1, fo, rfl, B, q⟩ := h
  obtain ⟨k, vt, pc, po, dx, t, cs, os, h1, h2, h3, h4, rfl, h6⟩ := B.ex
  obtain ⟨l1, l2, l3, l4, l5⟩ := lk_bfs k vt pc po t
  obtain ⟨hd, cur, oth⟩ := f1
  simp only at h2 h6
  replace q := q H .refl
  refine ⟨_, (pss_one (ps_ret (pe_and (pe_cmpR op_eq (pe_fld (pv 0) rfl) pe_str (nomark _)) (pe_one (pe_not (pe_fld (pv 0) rfl)))))), ?_⟩
  walk_at "cl"
  walk_at "rk"
  refine r_get h1 T.clB T.bW l1 ?_
  walk_at "rk"
  cases h2 with
  | root => refine r_F (by decide +kernel) ?_; exact q
  | each => refine r_F (by decide +kernel) ?_; exact q
  | whl => refine r_F (by decide +kernel) ?_; exact q
  | ife =>
    refine r_T (by decide +kernel) ?_
    walk_at "rk"
    refine r_get h1 T.clB T.bU l5 ?_
    walk_at "rk"
    rcases h6 with ⟨rfl, rfl, a3, rfl⟩ | ⟨b', rfl, rfl, a3, a4⟩
    · exact q
    · exact q
end
end Hj
end
section
set_option Elab.async false
set_option linter.all false
set_option maxRecDepth 100000
set_option maxHeartbeats 8000000
local macro_rules | `(tactic| walk_at "rd") => `(tactic| repeat (first
  | with_reducible refine Hj.r_seq ?_
  | with_reducible refine Hj.r_nx ?_
  | with_reducible refine Hj.r_rt ?_
  | with_reducible refine L2.iteT ?_
  | with_reducible refine L2.iteF ?_
  | with_reducible refine Hj.r_set ?_
  | with_reducible refine Hj.r_gname ?_
  | with_reducible refine Hj.r_if ?_
  | with_reducible refine Hj.r_ret ?_
  | ((with_reducible show L2.tVar _ _ _ _); refine Hj.r_var rfl ?_)
  | with_reducible refine Hj.r_c ?_
  | with_reducible refine Hj.r_cons ?_
  | with_reducible refine Hj.r_nil ?_
  | with_reducible refine Hj.r_op ?_
  | with_reducible refine Hj.r_test ?_
  | with_reducible refine Hj.r_B ?_
  | with_reducible refine Hj.r_cb ?_
  | with_reducible refine Hj.r_blV ?_
  | with_reducible refine Hj.r_and ?_
  | with_reducible refine Hj.r_or ?_
  | with_reducible refine Hj.r_not ?_
  | with_reducible refine Hj.r_call ?_
  | with_reducible refine Hj.r_tup ?_
  | with_reducible refine Hj.r_lst ?_
  | with_reducible refine Hj.r_eqS ?_
  | with_reducible refine Hj.r_eqI ?_
  | with_reducible refine Hj.r_neS ?_
  | with_reducible refine Hj.r_neI ?_
  | with_reducible refine Hj.r_isN ?_
  | with_reducible refine Hj.r_I0 ?_
  | with_reducible refine Hj.r_addI ?_
  | with_reducible refine Hj.r_intOf ?_
  | with_reducible refine Hj.r_mx ?_
  | with_reducible refine Hj.r_un ?_
  | with_reducible refine Hj.r_neg ?_
  | with_reducible refine Hj.r_drop ?_
  | with_reducible refine Hj.r_next ?_
  | with_reducible refine Hj.r_retN ?_
  | with_reducible refine Hj.r_sub ?_
  | with_reducible refine Hj.r_asg ?_
  | with_reducible refine Hj.r_bm ?_
  | with_reducible refine Hj.r_bm0 ?_
  | with_reducible refine Hj.r_meth ?_
  | with_reducible refine Hj.r_make ?_
  | with_reducible refine Hj.r_fldK ?_
  | with_reducible refine Hj.r_setK ?_
  | with_reducible refine Hj.r_sl ?_
  | with_reducible refine Hj.r_no ?_
  | with_reducible refine Hj.r_mkB ?_
  | with_reducible refine Hj.r_chain ?_
  | with_reducible refine Hj.r_leS ?_
  | with_reducible refine Hj.r_mkM ?_
  | with_reducible refine Hj.r_part ?_
  | with_reducible refine Hj.r_partI ?_
  | with_reducible refine Hj.r_m1 ?_
  | with_reducible refine Hj.r_strs ?_
  | with_reducible refine Hj.r_andV ?_
  | with_reducible refine Hj.r_orV ?_
  | with_reducible refine Hj.r_notV ?_
  | with_reducible refine Hj.r_for ?_
  | with_reducible refine Hj.r_rng ?_
  | with_reducible refine Hj.r_itL ?_
  | with_reducible refine Hj.r_itT ?_
  | with_reducible refine Hj.r_itS ?_
  | with_reducible refine Hj.r_itSE ?_))
local macro_rules | `(tactic| walk_at "rk") => `(tactic| repeat (first
  | with_reducible refine Hj.r_seq ?_
  | with_reducible refine Hj.r_nx ?_
  | with_reducible refine Hj.r_rt ?_
  | with_reducible refine L2.iteT ?_
  | with_reducible refine L2.iteF ?_
  | with_reducible refine Hj.r_set ?_
  | with_reducible refine Hj.r_gname ?_
  | with_reducible refine Hj.r_if ?_
  | with_reducible refine Hj.r_ret ?_
  | ((with_reducible show L2.tVar _ _ _ _); refine Hj.r_var rfl ?_)
  | with_reducible refine Hj.r_c ?_
  | with_reducible refine Hj.r_cons ?_
  | with_reducible refine Hj.r_nil ?_
  | with_reducible refine Hj.r_op ?_
  | with_reducible refine Hj.r_test ?_
  | with_reducible refine Hj.r_B ?_
  | with_reducible refine Hj.r_cb ?_
  | with_reducible refine Hj.r_blV ?_
  | with_reducible refine Hj.r_and ?_
  | with_reducible refine Hj.r_or ?_
  | with_reducible refine Hj.r_not ?_
  | with_reducible refine Hj.r_call ?_
  | with_reducible refine Hj.r_tupK ?_
  | with_reducible refine Hj.r_lstK ?_
  | with_reducible refine Hj.r_eqS ?_
  | with_reducible refine Hj.r_eqI ?_
  | with_reducible refine Hj.r_neS ?_
  | with_reducible refine Hj.r_neI ?_
  | with_reducible refine Hj.r_isN ?_
  | with_reducible refine Hj.r_I0 ?_
  | with_reducible refine Hj.r_addI ?_
  | with_reducible refine Hj.r_intOf ?_
  | with_reducible refine Hj.r_mx ?_
  | with_reducible refine Hj.r_un ?_
  | with_reducible refine Hj.r_neg ?_
  | with_reducible refine Hj.r_drop ?_
  | with_reducible refine Hj.r_next ?_
  | with_reducible refine Hj.r_retN ?_
  | with_reducible refine Hj.r_sub ?_
  | with_reducible refine Hj.r_asg ?_
  | with_reducible refine Hj.r_bm ?_
  | with_reducible refine Hj.r_bm0 ?_
  | with_reducible refine Hj.r_meth ?_
  | with_reducible refine Hj.r_make ?_
  | with_reducible refine Hj.r_fldK ?_
  | with_reducible refine Hj.r_setK ?_
  | with_reducible refine Hj.r_sl ?_
  | with_reducible refine Hj.r_no ?_
  | with_reducible refine Hj.r_mkB ?_
  | with_reducible refine Hj.r_chain ?_
  | with_reducible refine Hj.r_leS ?_
  | with_reducible refine Hj.r_mkM ?_
  | with_reducible refine Hj.r_part ?_
  | with_reducible refine Hj.r_partI ?_
  | with_reducible refine Hj.r_m1 ?_
  | with_reducible refine Hj.r_strs ?_
  | with_reducible refine Hj.r_andV ?_
  | with_reducible refine Hj.r_orV ?_
  | with_reducible refine Hj.r_notV ?_
  | with_reducible refine Hj.r_for ?_
  | with_reducible refine Hj.r_rng ?_
  | with_reducible refine Hj.r_itL ?_
  | with_reducible refine Hj.r_itT ?_
  | with_reducible refine Hj.r_itS ?_
  | with_reducible refine Hj.r_itSE ?_))
local macro_rules | `(tactic| walk_at "cl") => `(tactic| ((try dsimp only [L2.cxOf, L2.Cx.nox]); simp only [L2.start, List.map, List.length, List.replicate, List.cons_append, List.nil_append, Nat.reduceAdd, Nat.reduceSub]))
local macro_rules | `(tactic| walk_at "len") => `(tactic| (intro vs H Q E h; first
  | (obtain ⟨_, ee, _⟩ := h; subst ee; rfl) | (obtain ⟨_, _, ee, _⟩ := h; subst ee; rfl) | (obtain ⟨_, _, _, ee, _⟩ := h; subst ee; rfl) | (obtain ⟨_, _, _, _, ee, _⟩ := h; subst ee; rfl) | (obtain ⟨_, _, _, _, _, ee, _⟩ := h; subst ee; rfl) | (obtain ⟨_, _, _, _, _, _, ee, _⟩ := h; subst ee; rfl)
  | (obtain ⟨_, _, _, _, _, _, _, ee, _⟩ := h; subst ee; rfl) | (obtain ⟨_, _, _, _, _, _, _, _, ee, _⟩ := h; subst ee; rfl) | (obtain ⟨_, _, _, _, _, _, _, _, _, ee, _⟩ := h; subst ee; rfl) | (obtain ⟨_, _, _, _, _, _, _, _, _, _, ee, _⟩ := h; subst ee; rfl)))
namespace Hj
open PySem PySem.Spec L2
section
variable {P : Program} {w : World} {K : PySem.W.Frag} {mg : Str → Option Value} {base : Heap}
/-! ### the program's reader -/
def rfs (aw : Addr) (i : Int) (pbl : Addr) (c d : Int) : List (Str × V) := [("reader_words", .ref aw), ("reader_at", .int i), ("reader_blocks", .ref pbl), ("reader_count", .int c), ("reader_depth", .int d)]
theorem lk_rfs (aw : Addr) (i : Int) (pbl : Addr) (c d : Int) : (rfs aw i pbl c d).lookup ("reader_words" : Str) = some (.ref aw) ∧ (rfs aw i pbl c d).lookup ("reader_at" : Str) = some (.int i) ∧ (rfs aw i pbl c d).lookup ("reader_blocks" : Str) = some (.ref pbl) ∧ (rfs aw i pbl c d).lookup ("reader_count" : Str) = some (.int c) ∧ (rfs aw i pbl c d).lookup ("reader_depth" : Str) = some (.int d) := ⟨rfl, rfl, rfl, rfl, rfl⟩
theorem put_rfs (aw : Addr) (i j : Int) (pbl : Addr) (c d e : Int) : putF "reader_at" (.int j) (rfs aw i pbl c d) = rfs aw j pbl c d ∧ putF "reader_count" (.int e) (rfs aw i pbl c d) = rfs aw i pbl e d ∧ putF "reader_depth" (.int e) (rfs aw i pbl c d) = rfs aw i pbl c e := ⟨rfl, rfl, rfl⟩
/-- the blocks, the youngest first -/
def StkB (K : PySem.W.Frag) (H : Hp) : List Addr → List Fr → List Addr → Prop
  | [], [], ft => ft = []
  | a :: as, f :: r, ft => ∃ f1 f2, ft = f1 ++ f2 ∧ BlkAt K H a f f1 ∧ StkB K H as r f2
  | _, _, _ => False
theorem StkB.keep {S : List Addr} {H H' : Hp} (k : Kp S H H') : ∀ {as : List Addr} {stk : List Fr} {ft : List Addr}, StkB K H as stk ft → (∀ x ∈ ft, x ∉ S) → StkB K H' as stk ft
  | [], [], _, h, _ => h
  | a :: as, f :: r, _, ⟨f1, f2, e, h1, h2⟩, hs => ⟨f1, f2, e, h1.keep k fun x hx => hs x (by rw [e]; exact List.mem_append_left _ hx), StkB.keep k h2 fun x hx => hs x (by rw [e]; exact List.mem_append_right _ hx)⟩
  | [], _ :: _, _, h, _ => h.elim
  | _ :: _, [], _, h, _ => h.elim
theorem StkB.ne {H : Hp} : ∀ {as : List Addr} {stk : List Fr} {ft : List Addr}, StkB K H as stk ft → ∀ x ∈ ft, H x ≠ none
  | [], [], _, h, x, hx => by rw [show _ = [] from h] at hx; cases hx
  | a :: as, f :: r, _, ⟨f1, f2, e, h1, h2⟩, x, hx => by
    rw [e] at hx
    rcases List.mem_append.mp hx with hx | hx
    · exact h1.ne x hx
    · exact StkB.ne h2 x hx
  | [], _ :: _, _, h, _, _ => h.elim
  | _ :: _, [], _, h, _, _ => h.elim
theorem StkB.len {H : Hp} : ∀ {as : List Addr} {stk : List Fr} {ft : List Addr}, StkB K H as stk ft → as.length = stk.length
  | [], [], _, _ => rfl
  | a :: as, f :: r, _, ⟨f1, f2, e, h1, h2⟩ => congrArg (· + 1) (StkB.len h2)
  | [], _ :: _, _, h => h.elim
  | _ :: _, [], _, h => h.elim
theorem StkB.get {H : Hp} : ∀ {as : List Addr} {stk : List Fr} {ft : List Addr} {i : Nat} {a : Addr}, StkB K H as stk ft → as[i]? = some a → ∃ f fo, stk[i]? = some f ∧ BlkAt K H a f fo
  | [], [], _, _, _, _, e => by simp at e
  | a :: as, f :: r, _, 0, b, ⟨f1, f2, e, h1, h2⟩, eb => by
    have : a = b := by simpa using eb
    subst this
    exact ⟨f, f1, rfl, h1⟩
  | a :: as, f :: r, _, i + 1, b, ⟨f1, f2, e, h1, h2⟩, eb => by
    obtain ⟨g, fo, h3, h4⟩ := StkB.get (i := i) h2 (by simpa using eb)
    exact ⟨g, fo, by simpa using h3, h4⟩
  | [], _ :: _, _, _, _, h, _ => h.elim
  | _ :: _, [], _, _, _, h, _ => h.elim
theorem StkB.getR {H : Hp} {as : List Addr} {stk : List Fr} {ft : List Addr} {i : Nat} {x : V} (h : StkB K H as stk ft) (e : (as.reverse.map V.ref)[i]? = some x) : ∃ a f fo, x = .ref a ∧ stk.reverse[i]? = some f ∧ BlkAt K H a f fo := by
  rw [List.getElem?_map] at e
  cases e2 : as.reverse[i]? with
  | none => rw [e2] at e; cases e
  | some a =>
    rw [e2] at e
    have hi : i < as.length := by
      have := (List.getElem?_eq_some_iff.mp e2).1
      simpa using this
    rw [List.getElem?_reverse hi] at e2
    obtain ⟨f, fo, h1, h2⟩ := h.get e2
    refine ⟨a, f, fo, (Option.some.inj e).symm, ?_, h2⟩
    rw [List.getElem?_reverse (by rw [← h.len]; exact hi), ← h.len]
    exact h1
theorem StkB.top {H : Hp} {as : List Addr} {f : Fr} {r : List Fr} {ft : List Addr} (h : StkB K H as (f :: r) ft) : ∃ a as' f1 f2, as = a :: as' ∧ ft = f1 ++ f2 ∧ BlkAt K H a f f1 ∧ StkB K H as' r f2 := by
  cases as with
  | nil => exact h.elim
  | cons a as =>
    obtain ⟨f1, f2, e, h1, h2⟩ := h
    exact ⟨a, as, f1, f2, rfl, e, h1, h2⟩
theorem rev_consB (a : Addr) (as : List Addr) : (a :: as).reverse.map V.ref = as.reverse.map V.ref ++ [V.ref a] := by
  rw [List.reverse_cons, List.map_append]
  rfl
/-- all that the reader holds; H0: the memory when it began -/
structure RsAt (K : PySem.W.Frag) (H0 H : Hp) (r aw pbl : Addr) (ws : List Str) (i : Nat) (as : List Addr) (stk : List Fr) (ft : List Addr) (c d : Nat) : Prop where
  o : ∃ dx, H r = some (.ins (cR K) dx (rfs aw (i : Int) pbl (c : Int) (d : Int)))
  w : H aw = some (.lst (ws.map V.str))
  b : H pbl = some (.lst (as.reverse.map V.ref))
  st : StkB K H as stk ft
  nd : (r :: aw :: pbl :: ft).Nodup
  fr : ∀ x ∈ r :: aw :: pbl :: ft, H0 x = none
  kp : Kp [] H0 H
  l1 : ws.length ≤ 200000
  l2 : ∀ z ∈ ws, z.length ≤ 100000
  l3 : i ≤ ws.length
theorem RsAt.ne {H0 H : Hp} {r aw pbl : Addr} {ws : List Str} {i : Nat} {as : List Addr} {stk : List Fr} {ft : List Addr} {c d : Nat} (R : RsAt K H0 H r aw pbl ws i as stk ft c d) : ∀ x ∈ r :: aw :: pbl :: ft, H x ≠ none := by
  intro x hx
  obtain ⟨dx, ho⟩ := R.o
  rcases List.mem_cons.mp hx with rfl | hx
  · rw [ho]; simp
  rcases List.mem_cons.mp hx with rfl | hx
  · rw [R.w]; simp
  rcases List.mem_cons.mp hx with rfl | hx
  · rw [R.b]; simp
  exact R.st.ne x hx
theorem RsAt.keep0 {H0 H H' : Hp} {r aw pbl : Addr} {ws : List Str} {i : Nat} {as : List Addr} {stk : List Fr} {ft : List Addr} {c d : Nat} (R : RsAt K H0 H r aw pbl ws i as stk ft c d) (k : Kp [] H H') : RsAt K H0 H' r aw pbl ws i as stk ft c d := by
  obtain ⟨dx, ho⟩ := R.o
  exact ⟨⟨dx, k.get ho (by simp)⟩, k.get R.w (by simp), k.get R.b (by simp), R.st.keep k (by simp), R.nd, R.fr, R.kp.trans k, R.l1, R.l2, R.l3⟩
theorem RsAt.sep {H0 H : Hp} {r aw pbl : Addr} {ws : List Str} {i : Nat} {as : List Addr} {stk : List Fr} {ft : List Addr} {c d : Nat} (R : RsAt K H0 H r aw pbl ws i as stk ft c d) : (r ≠ aw ∧ r ≠ pbl ∧ r ∉ ft) ∧ (aw ≠ pbl ∧ aw ∉ ft) ∧ pbl ∉ ft ∧ ft.Nodup := by
  have h := R.nd
  simp only [List.nodup_cons, List.mem_cons, not_or] at h
  exact ⟨⟨h.1.1, h.1.2.1, h.1.2.2⟩, ⟨h.2.1.1, h.2.1.2⟩, h.2.2.1, h.2.2.2⟩
theorem RsAt.kpy {H0 H H' : Hp} {r aw pbl : Addr} {ws : List Str} {i : Nat} {as : List Addr} {stk : List Fr} {ft : List Addr} {c d : Nat} (R : RsAt K H0 H r aw pbl ws i as stk ft c d) {x : Addr} (hx : x ∈ r :: aw :: pbl :: ft) (k : Kp [x] H H') : Kp [] H0 H' :=
  R.kp.young k fun b hb => by rw [List.mem_singleton.mp hb]; exact R.fr x hx
/-- its own fields are written -/
theorem RsAt.setO {H0 H H' : Hp} {r aw pbl : Addr} {ws : List Str} {i j : Nat} {as : List Addr} {stk : List Fr} {ft : List Addr} {c d c' d' : Nat} {dx : Addr} (R : RsAt K H0 H r aw pbl ws i as stk ft c d) (k : Kp [r] H H') (e : H' r = some (.ins (cR K) dx (rfs aw (j : Int) pbl (c' : Int) (d' : Int)))) (hj : j ≤ ws.length) : RsAt K H0 H' r aw pbl ws j as stk ft c' d' := by
  obtain ⟨⟨s1, s2, s3⟩, ⟨s4, s5⟩, s6, s7⟩ := R.sep
  exact ⟨⟨dx, e⟩, k.get R.w (by simpa using Ne.symm s1), k.get R.b (by simpa using Ne.symm s2), R.st.keep k fun x hx hm => s3 (List.mem_singleton.mp hm ▸ hx), R.nd, R.fr, R.kpy (by simp) k, R.l1, R.l2, hj⟩
/-- BadText with this place may go out -/
def Bad (K : PySem.W.Frag) (E : XK) (H0 : Hp) (n : Nat) : Prop := ∀ d H', Kp [] H0 H' → H' d = some (.xd [(("place" : Str), .int (n : Int))]) → E (.ref (cBT K)) (some d) H'
def Many (K : PySem.W.Frag) (E : XK) (H0 : Hp) (n l : Nat) : Prop := ∀ d H', Kp [] H0 H' → H' d = some (.xd [(("limit" : Str), .int (l : Int)), (("count" : Str), .int (n : Int))]) → E (.ref (cTM K)) (some d) H'
theorem r_badK {H H0 : Hp} {n : Nat} {E : XK} (k : Kp [] H0 H) (b : Bad K E H0 n) : mkB (cBT K) [V.int (n : Int)] H fun cls d H' => E cls d H' := ⟨_, rfl, fun d hd => b d _ (k.trans (Kp.new hd)) upd_same⟩
theorem r_manyK {H H0 : Hp} {n l : Nat} {E : XK} (k : Kp [] H0 H) (b : Many K E H0 n l) : mkM (cTM K) [V.int (n : Int), V.int (l : Int)] H fun cls d H' => E cls d H' := ⟨_, _, rfl, fun d hd => b d _ (k.trans (Kp.new hd)) upd_same⟩
/-! peek_word -/
def spPeek (K : PySem.W.Frag) : Sp := fun vs H Q E => ∃ (H0 : Hp) (r aw pbl : Addr) (ws : List Str) (i : Nat) (as : List Addr) (stk : List Fr) (ft : List Addr) (c d : Nat), vs = [.ref r] ∧ RsAt K H0 H r aw pbl ws i as stk ft c d ∧ (ws[i]? = none → Bad K E H0 ws.length) ∧ ∀ (z : Str) (H' : Hp), ws[i]? = some z → Kp [] H H' → Q (.str z) H'
theorem sc_OrderReader_peek_word : FnScope ["self"] ["self"] (defScope s_OrderReader_peek_word) := ⟨rfl, rfl, rfl, by decide +kernel, rfl, by decide +kernel, by decide +kernel⟩
theorem ok_RPeek {f : Addr} {fd : FuncData} (F : Fun K "peek_word" "OrderReader.peek_word" s_OrderReader_peek_word f fd) (T : Txt P K mg) : FnOk P w K mg base (L2.CX P w) 5 f fd ["self"] (spPeek K) := by
  refine F.okX sc_OrderReader_peek_word ?_ (fun cdv A outer s H vs Q E hr0 h => ?_)
  · intro vs H Q E h
    obtain ⟨_, _, _, _, _, _, _, _, _, _, _, ee, _⟩ := h
    subst ee
    rfl
  obtain ⟨H0, r, aw, pbl, ws, i, as, stk, ft, c, d, rfl, R, hb, q⟩ := h
  obtain ⟨dx, ho⟩ := R.o
  obtain ⟨l1, l2, l3, l4, l5⟩ := lk_rfs aw (i : Int) pbl (c : Int) (d : Int)
  refine ⟨_, (pss_cons (ps_if (pt_cmpR op_ge (pe_fld (pv 0) rfl) (pe_callB call_lenA (by rfl) T.zlen (by decide +kernel) (pa_cons (pe_fld (pv 0) rfl) pa_nil)) (nomark _)) (pss_one (ps_raise rfl (takes_of rfl rfl rfl rfl) (pmk_bt T.bt T.gBadText T.hfile T.htop T.btN hr0 (pa_cons (pe_callB call_lenA (by rfl) T.zlen (by decide +kernel) (pa_cons (pe_fld (pv 0) rfl) pa_nil)) pa_nil) rfl))) pss_nil) (pss_one (ps_ret (pe_ix ix_seq (pe_fld (pv 0) rfl) (pe_fld (pv 0) rfl) (fun _ _ => rfl))))), ?_⟩
  walk_at "cl"
  walk_at "rk"
  refine r_get ho T.clR T.rA l2 ?_
  walk_at "rk"
  refine r_get ho T.clR T.rW l1 ?_
  walk_at "rk"
  refine r_lenL (SqL.of R.w) ?_
  walk_at "rk"
  rw [List.length_map]
  refine r_d (fun c1 => ?_) (fun c1 => ?_)
  · walk_at "rk"
    refine r_get ho T.clR T.rW l1 ?_
    walk_at "rk"
    refine r_lenL (SqL.of R.w) ?_
    rw [List.length_map]
    exact r_badK R.kp (hb (List.getElem?_eq_none (by omega)))
  · walk_at "rk"
    refine r_get ho T.clR T.rW l1 ?_
    walk_at "rk"
    refine r_get ho T.clR T.rA l2 ?_
    have hi : i < ws.length := by omega
    refine r_ixL (v := .str ws[i]) (SqL.of R.w) (atI_nat (by rw [List.getElem?_map, List.getElem?_eq_getElem hi]; rfl)) ?_
    exact q _ _ (List.getElem?_eq_getElem hi) .refl
/-- what a taking of one word asks: ok tells which words are taken -/
def TkOk (K : PySem.W.Frag) (ok : Str → Bool) (r : Addr) (H : Hp) (Q : VK) (E : XK) (stk : List Fr) : Prop := ∃ (H0 : Hp) (aw pbl : Addr) (ws : List Str) (i : Nat) (as ft : List Addr) (c d : Nat), RsAt K H0 H r aw pbl ws i as stk ft c d ∧ (ws[i]? = none → Bad K E H0 ws.length) ∧ (∀ z, ws[i]? = some z → ok z = false → Bad K E H0 i) ∧
  ∀ (z : Str) (H' : Hp), ws[i]? = some z → ok z = true → RsAt K H0 H' r aw pbl ws (i + 1) as stk ft c d → Kp [r] H H' → Q (.str z) H'
/-! take_word -/
def spTkW (K : PySem.W.Frag) : Sp := fun vs H Q E => ∃ (r al : Addr) (stk : List Fr) (us : List Str), vs = [.ref r, .ref al] ∧ (SqL K H al (us.map V.str) ∨ SqT K H al (us.map V.str)) ∧ TkOk K (fun z => us.contains z) r H Q E stk
theorem sc_OrderReader_take_word : FnScope ["self", "allowed", "word"] ["self", "allowed"] (defScope s_OrderReader_take_word) := ⟨rfl, rfl, rfl, by decide +kernel, rfl, by decide +kernel, by decide +kernel⟩
theorem ok_RTkW {f : Addr} {fd : FuncData} (F : Fun K "take_word" "OrderReader.take_word" s_OrderReader_take_word f fd) (T : Txt P K mg) (M_peek_word : Mn P w K mg base (L2.CX P w) 5 (cR K) "peek_word" ["self"] (spPeek K)) : FnOk P w K mg base (L2.CX P w) 6 f fd ["self", "allowed"] (spTkW K) := by
  refine F.okX sc_OrderReader_take_word ?_ (fun cdv A outer s H vs Q E hr0 h => ?_)
  · walk_at "len"
  obtain ⟨r, al, stk, us, rfl, ha, H0, aw, pbl, ws, i, as, ft, c, d, R, hb1, hb2, q⟩ := h
  obtain ⟨dx, ho⟩ := R.o
  obtain ⟨l1, l2, l3, l4, l5⟩ := lk_rfs aw (i : Int) pbl (c : Int) (d : Int)
  refine ⟨_, (pss_cons (ps_set (i := 2) sc_OrderReader_take_word.nd rfl (Or.inl rfl) (pe_m0 T.clR M_peek_word hr0 (passes_call (takes_of rfl rfl rfl rfl) (fun _ _ _ _ z => z)) (pv 0))) (pss_cons (ps_if (pt_cmpR opNotIn (pv 2) (pv 1) (by rfl)) (pss_one (ps_raise rfl (takes_of rfl rfl rfl rfl) (pmk_bt T.bt T.gBadText T.hfile T.htop T.btN hr0 (pa_cons (pe_fld (pv 0) rfl) pa_nil) rfl))) pss_nil) (pss_cons (ps_fldaug (pv 0) pe_int in_add) (pss_one (ps_ret (pv 2)))))), ?_⟩
  walk_at "cl"
  walk_at "rk"
  refine r_mt ho rfl ?_
  walk_at "rk"
  refine ⟨H0, r, aw, pbl, ws, i, as, stk, ft, c, d, rfl, R, hb1, fun z H1 ez k1 => ?_⟩
  have hi : i < ws.length := (List.getElem?_eq_some_iff.mp ez).1
  have R1 := R.keep0 k1
  have ho1 := k1.get ho (by simp)
  walk_at "rk"
  rcases ha with ha | ha
  · refine r_ninL (k1.sqL ha (by simp)) rfl (flat_strs us) ?_
    walk_at "rk"
    rw [inV_strs]
    cases hc : us.contains z with
    | false =>
      refine r_T rfl ?_
      walk_at "rk"
      refine r_get ho1 T.clR T.rA l2 ?_
      exact r_badK R1.kp (hb2 z ez hc)
    | true =>
      refine r_F rfl ?_
      refine r_aug rfl ho1 T.clR T.rA l2 (by simp [rfs]) fun H2 k2 e2 => ?_
      rw [(put_rfs _ _ _ _ _ _ 0).1] at e2
      walk_at "rk"
      exact q z H2 ez hc (R1.setO (j := i + 1) k2 (by rw [e2, Int.natCast_add]; rfl) hi) (k1.all.trans k2)
  · refine r_ninT (k1.sqT ha) rfl (flat_strs us) ?_
    walk_at "rk"
    rw [inV_strs]
    cases hc : us.contains z with
    | false =>
      refine r_T rfl ?_
      walk_at "rk"
      refine r_get ho1 T.clR T.rA l2 ?_
      exact r_badK R1.kp (hb2 z ez hc)
    | true =>
      refine r_F rfl ?_
      refine r_aug rfl ho1 T.clR T.rA l2 (by simp [rfs]) fun H2 k2 e2 => ?_
      rw [(put_rfs _ _ _ _ _ _ 0).1] at e2
      walk_at "rk"
      exact q z H2 ez hc (R1.setO (j := i + 1) k2 (by rw [e2, Int.natCast_add]; rfl) hi) (k1.all.trans k2)
/-! take_variable -/
theorem isVar_lt (c : Nat) : (!decide ((⟨#[c]⟩ : Str).cps.toList < ("A" : Str).cps.toList) && !decide (("Z" : Str).cps.toList < (⟨#[c]⟩ : Str).cps.toList)) = isVar (⟨#[c]⟩ : Str) := by
  have e1 : ("A" : Str).cps.toList = [65] := by decide +kernel
  have e2 : ("Z" : Str).cps.toList = [90] := by decide +kernel
  have e3 : (⟨#[c]⟩ : Str).cps.toList = [c] := rfl
  have e4 : isVar (⟨#[c]⟩ : Str) = (decide (65 ≤ c) && decide (c ≤ 90)) := rfl
  rw [e1, e2, e3, e4, Bool.eq_iff_iff]
  simp only [Bool.and_eq_true, Bool.not_eq_true', decide_eq_false_iff_not, decide_eq_true_eq, List.cons_lt_cons_iff, List.not_lt_nil, and_false, or_false, Nat.not_lt]
def spTkV (K : PySem.W.Frag) : Sp := fun vs H Q E => ∃ (r : Addr) (stk : List Fr), vs = [.ref r] ∧ TkOk K isVar r H Q E stk
theorem sc_OrderReader_take_variable : FnScope ["self", "word"] ["self"] (defScope s_OrderReader_take_variable) := ⟨rfl, rfl, rfl, by decide +kernel, rfl, by decide +kernel, by decide +kernel⟩
theorem ok_RTkV {f : Addr} {fd : FuncData} (F : Fun K "take_variable" "OrderReader.take_variable" s_OrderReader_take_variable f fd) (T : Txt P K mg) (M_peek_word : Mn P w K mg base (L2.CX P w) 5 (cR K) "peek_word" ["self"] (spPeek K)) : FnOk P w K mg base (L2.CX P w) 6 f fd ["self"] (spTkV K) := by
  refine F.okX sc_OrderReader_take_variable ?_ (fun cdv A outer s H vs Q E hr0 h => ?_)
  · walk_at "len"
  obtain ⟨r, stk, rfl, H0, aw, pbl, ws, i, as, ft, c, d, R, hb1, hb2, q⟩ := h
  obtain ⟨dx, ho⟩ := R.o
  obtain ⟨l1, l2, l3, l4, l5⟩ := lk_rfs aw (i : Int) pbl (c : Int) (d : Int)
  refine ⟨_, (pss_cons (ps_set (i := 1) sc_OrderReader_take_variable.nd rfl (Or.inl rfl) (pe_m0 T.clR M_peek_word hr0 (passes_call (takes_of rfl rfl rfl rfl) (fun _ _ _ _ z => z)) (pv 0))) (pss_cons (ps_if (PW.pt (pw_or (pt_cmpR op_ne (pe_callB call_lenA (by rfl) T.zlen (by decide +kernel) (pa_cons (pv 1) pa_nil)) pe_int (nomark _)) (pw_or1 (pt_not (pt_chain op_leS op_leS pe_str (pv 1) pe_str))))) (pss_one (ps_raise rfl (takes_of rfl rfl rfl rfl) (pmk_bt T.bt T.gBadText T.hfile T.htop T.btN hr0 (pa_cons (pe_fld (pv 0) rfl) pa_nil) rfl))) pss_nil) (pss_cons (ps_fldaug (pv 0) pe_int in_add) (pss_one (ps_ret (pv 1)))))), ?_⟩
  walk_at "cl"
  walk_at "rk"
  refine r_mt ho rfl ?_
  walk_at "rk"
  refine ⟨H0, r, aw, pbl, ws, i, as, stk, ft, c, d, rfl, R, hb1, fun z H1 ez k1 => ?_⟩
  have hi : i < ws.length := (List.getElem?_eq_some_iff.mp ez).1
  have R1 := R.keep0 k1
  have ho1 := k1.get ho (by simp)
  have zl := R.l2 z (List.mem_of_getElem? ez)
  walk_at "rk"
  refine r_lenS (by omega) ?_
  walk_at "rk"
  refine r_nd (fun c1 => ?_) (fun c1 => ?_)
  · walk_at "rk"
    refine r_get ho1 T.clR T.rA l2 ?_
    exact r_badK R1.kp (hb2 z ez (isVar_len (by omega)))
  · obtain ⟨c0, rfl⟩ := one_sign (z := z) (by omega)
    walk_at "rk"
    have ev := isVar_lt c0
    refine r_b (fun c2 => ?_) (fun c2 => ?_)
    · rw [c2, Bool.true_and] at ev
      walk_at "rk"
      rw [ev]
      cases hc : isVar (⟨#[c0]⟩ : Str) with
      | false =>
        refine r_T rfl ?_
        walk_at "rk"
        refine r_get ho1 T.clR T.rA l2 ?_
        exact r_badK R1.kp (hb2 _ ez hc)
      | true =>
        refine r_F rfl ?_
        walk_at "rk"
        refine r_aug rfl ho1 T.clR T.rA l2 (by simp [rfs]) fun H2 k2 e2 => ?_
        rw [(put_rfs _ _ _ _ _ _ 0).1] at e2
        walk_at "rk"
        exact q _ H2 ez hc (R1.setO (j := i + 1) k2 (by rw [e2, Int.natCast_add]; rfl) hi) (k1.all.trans k2)
    · rw [c2, Bool.false_and] at ev
      walk_at "rk"
      refine r_T rfl ?_
      walk_at "rk"
      refine r_get ho1 T.clR T.rA l2 ?_
      exact r_badK R1.kp (hb2 _ ez ev.symm)
/-! take_term -/
def spTkT (K : PySem.W.Frag) : Sp := fun vs H Q E => ∃ (r : Addr) (stk : List Fr), vs = [.ref r] ∧ stk.length ≤ 300000 ∧ TkOk K (isTerm (scp stk)) r H Q E stk
theorem sc_OrderReader_take_term : FnScope ["self", "word", "variables", "block"] ["self"] (defScope s_OrderReader_take_term) := ⟨rfl, rfl, rfl, by decide +kernel, rfl, by decide +kernel, by decide +kernel⟩
theorem ok_RTkT {f : Addr} {fd : FuncData} (F : Fun K "take_term" "OrderReader.take_term" s_OrderReader_take_term f fd) (T : Txt P K mg) (M_peek_word : Mn P w K mg base (L2.CX P w) 5 (cR K) "peek_word" ["self"] (spPeek K)) (D_is_name : Dn P w K mg base CX0 5 "is_name" ["text"] spIsName) : FnOk P w K mg base (L2.CX P w) 6 f fd ["self"] (spTkT K) := by
  refine F.okX sc_OrderReader_take_term ?_ (fun cdv A outer s H vs Q E hr0 h => ?_)
  · walk_at "len"
  obtain ⟨r, stk, rfl, hsl, H0, aw, pbl, ws, i, as, ft, c, d, R, hb1, hb2, q⟩ := h
  obtain ⟨dx, ho⟩ := R.o
  obtain ⟨l1, l2, l3, l4, l5⟩ := lk_rfs aw (i : Int) pbl (c : Int) (d : Int)
  refine ⟨_, (pss_cons (ps_set (i := 1) sc_OrderReader_take_term.nd rfl (Or.inl rfl) (pe_m0 T.clR M_peek_word hr0 (passes_call (takes_of rfl rfl rfl rfl) (fun _ _ _ _ z => z)) (pv 0))) (pss_cons (ps_setLc (i := 2) (te := tFld K (tVar 3) "block_thing") (tt := tTest (tOp rEq (tFld K (tVar 3) "block_word") (tC (.str "each")))) (own := [("block", 3)]) (g := gName 3) (by rfl) sc_OrderReader_take_term.nd rfl rfl (sw_true rfl rfl rfl (by decide +kernel)) (pi_list (pe_fld (pv 0) rfl)) (blkOk_by (own := [("block", 3)]) (N := ["self", "word", "variables", "block"]) (sc := defScope s_OrderReader_take_term) (by decide +kernel)) (fun _ _ _ _ _ => pg_name (i := 3) sc_OrderReader_take_term.nd rfl (Or.inl rfl)) (fun _ _ _ _ _ => (pts_one (pt_cmpR op_eq (pe_fld (pv 3) rfl) pe_str (nomark _)))) (fun _ _ _ _ _ => (pe_fld (pv 3) rfl))) (pss_cons (ps_if (PW.pt (pw_and (pt_not (pt_val (pe_d D_is_name hr0 pass0 (pa_cons (pv 1) pa_nil)))) (pw_and1 (pt_cmpR opNotIn (pv 1) (pv 2) (by rfl))))) (pss_one (ps_raise rfl (takes_of rfl rfl rfl rfl) (pmk_bt T.bt T.gBadText T.hfile T.htop T.btN hr0 (pa_cons (pe_fld (pv 0) rfl) pa_nil) rfl))) pss_nil) (pss_cons (ps_fldaug (pv 0) pe_int in_add) (pss_one (ps_ret (pv 1))))))), ?_⟩
  walk_at "cl"
  walk_at "rk"
  refine r_mt ho rfl ?_
  walk_at "rk"
  refine ⟨H0, r, aw, pbl, ws, i, as, stk, ft, c, d, rfl, R, hb1, fun z H1 ez k1 => ?_⟩
  have hi : i < ws.length := (List.getElem?_eq_some_iff.mp ez).1
  have R1 := R.keep0 k1
  have ho1 := k1.get ho (by simp)
  have zl := R.l2 z (List.mem_of_getElem? ez)
  walk_at "rk"
  refine r_fldK ?_
  walk_at "rk"
  refine r_get ho1 T.clR T.rB l3 ?_
  refine ⟨pbl, rfl, ⟨_, SqL.of R1.b⟩, fun D0 hD => ?_⟩
  have lenA : as.length = stk.length := R.st.len
  refine lc_list (K := K) (a := pbl) (xs := as.reverse.map V.ref) (fun j H'' => Kp [] H1 H'' ∧ H'' D0 = some (.lst (((stk.reverse.take j).filterMap hv).map V.str))) ⟨Kp.new hD, by rw [upd_same]; rfl⟩ (fun j H'' _ ⟨k, _⟩ => SqL.of (k.get R1.b (by simp))) ?_ ?_
  · rintro j x H'' hj ⟨k, e⟩
    obtain ⟨fa, fr, fo, rfl, hfr, hfa⟩ := R1.st.getR hj
    obtain ⟨kk, vt, pc, po, dxb, t, cs, os, h1, h2, h3, h4, rfl, h6⟩ := (hfa.keep k (by simp)).ex
    obtain ⟨m1, m2, m3, m4, m5⟩ := lk_bfs kk vt pc po t
    walk_at "rk"
    refine ⟨rfl, ?_⟩
    walk_at "rk"
    refine r_get h1 T.clB T.bW m1 ?_
    walk_at "rk"
    have et : (stk.reverse.take (j + 1)).filterMap hv = (stk.reverse.take j).filterMap hv ++ (hv fr).toList := by
      rw [take_get hfr, List.filterMap_append]
      cases hh : hv fr <;> simp [hh]
    have hlen : ((stk.reverse.take j).filterMap hv).length ≤ 300000 := by
      have h5 := List.length_filterMap_le hv (stk.reverse.take j)
      rw [List.length_take, List.length_reverse] at h5
      omega
    obtain ⟨hd, cur, oth⟩ := fr
    simp only at h2
    cases h2 with
    | each =>
      refine r_T (by decide +kernel) ?_
      walk_at "rk"
      refine r_get h1 T.clB T.bT m2 ?_
      refine ⟨_, e, szl (by rw [List.length_map]; omega), k.putN hD, ?_⟩
      rw [upd_same, et]
      simp [hv]
    | root =>
      refine r_F (by decide +kernel) ?_
      refine ⟨k, ?_⟩
      rw [et, e]
      simp [hv]
    | ife =>
      refine r_F (by decide +kernel) ?_
      refine ⟨k, ?_⟩
      rw [et, e]
      simp [hv]
    | whl =>
      refine r_F (by decide +kernel) ?_
      refine ⟨k, ?_⟩
      rw [et, e]
      simp [hv]
  · rintro H2 ⟨k2, e2⟩
    have R2 := R1.keep0 k2
    have ho2 := k2.get ho1 (by simp)
    obtain ⟨sc', esc, hsc⟩ : ∃ sc' : List Str, H2 D0 = some (.lst (sc'.map V.str)) ∧ ∀ z, z ∈ sc' ↔ z ∈ scp stk := by
      refine ⟨_, e2, fun z => ?_⟩
      rw [List.take_of_length_le (by rw [List.length_map, List.length_reverse, List.length_reverse]; omega), scp_hv, List.mem_filterMap, List.mem_filterMap]
      simp only [List.mem_reverse]
    have et := isTerm_same hsc z
    walk_at "rk"
    refine ⟨z, rfl, zl, fun H3 k3 => ?_⟩
    have R3 := R2.keep0 k3
    have ho3 := k3.get ho2 (by simp)
    walk_at "rk"
    cases hn : isNm z with
    | true =>
      rw [hn, Bool.true_or] at et
      refine r_F rfl ?_
      walk_at "rk"
      refine r_aug rfl ho3 T.clR T.rA l2 (by simp [rfs]) fun H4 k4 e4 => ?_
      rw [(put_rfs _ _ _ _ _ _ 0).1] at e4
      walk_at "rk"
      exact q z H4 ez et.symm (R3.setO (j := i + 1) k4 (by rw [e4, Int.natCast_add]; rfl) hi) (((k1.trans k2).trans k3).all.trans k4)
    | false =>
      rw [hn, Bool.false_or] at et
      refine r_T rfl ?_
      walk_at "rk"
      refine r_ninL (SqL.of (k3.get esc (by simp))) rfl (flat_strs sc') ?_
      walk_at "rk"
      rw [inV_strs, et]
      cases hc : isTerm (scp stk) z with
      | false =>
        refine r_T rfl ?_
        walk_at "rk"
        refine r_get ho3 T.clR T.rA l2 ?_
        exact r_badK R3.kp (hb2 z ez hc)
      | true =>
        have et := hc.symm
        refine r_F rfl ?_
        walk_at "rk"
        refine r_aug rfl ho3 T.clR T.rA l2 (by simp [rfs]) fun H4 k4 e4 => ?_
        rw [(put_rfs _ _ _ _ _ _ 0).1] at e4
        walk_at "rk"
        exact q z H4 ez et.symm (R3.setO (j := i + 1) k4 (by rw [e4, Int.natCast_add]; rfl) hi) (((k1.trans k2).trans k3).all.trans k4)
end
end Hj
end
section
set_option Elab.async false
set_option linter.all false
set_option maxRecDepth 100000
set_option maxHeartbeats 8000000
local macro_rules | `(tactic| walk_at "rd") => `(tactic| repeat (first
  | with_reducible refine Hj.r_seq ?_
  | with_reducible refine Hj.r_nx ?_
  | with_reducible refine Hj.r_rt ?_
  | with_reducible refine L2.iteT ?_
  | with_reducible refine L2.iteF ?_
  | with_reducible refine Hj.r_set ?_
  | with_reducible refine Hj.r_gname ?_
  | with_reducible refine Hj.r_if ?_
  | with_reducible refine Hj.r_ret ?_
  | ((with_reducible show L2.tVar _ _ _ _); refine Hj.r_var rfl ?_)
  | with_reducible refine Hj.r_c ?_
  | with_reducible refine Hj.r_cons ?_
  | with_reducible refine Hj.r_nil ?_
  | with_reducible refine Hj.r_op ?_
  | with_reducible refine Hj.r_test ?_
  | with_reducible refine Hj.r_B ?_
  | with_reducible refine Hj.r_cb ?_
  | with_reducible refine Hj.r_blV ?_
  | with_reducible refine Hj.r_and ?_
  | with_reducible refine Hj.r_or ?_
  | with_reducible refine Hj.r_not ?_
  | with_reducible refine Hj.r_call ?_
  | with_reducible refine Hj.r_tup ?_
  | with_reducible refine Hj.r_lst ?_
  | with_reducible refine Hj.r_eqS ?_
  | with_reducible refine Hj.r_eqI ?_
  | with_reducible refine Hj.r_neS ?_
  | with_reducible refine Hj.r_neI ?_
  | with_reducible refine Hj.r_isN ?_
  | with_reducible refine Hj.r_I0 ?_
  | with_reducible refine Hj.r_addI ?_
  | with_reducible refine Hj.r_intOf ?_
  | with_reducible refine Hj.r_mx ?_
  | with_reducible refine Hj.r_un ?_
  | with_reducible refine Hj.r_neg ?_
  | with_reducible refine Hj.r_drop ?_
  | with_reducible refine Hj.r_next ?_
  | with_reducible refine Hj.r_retN ?_
  | with_reducible refine Hj.r_sub ?_
  | with_reducible refine Hj.r_asg ?_
  | with_reducible refine Hj.r_bm ?_
  | with_reducible refine Hj.r_bm0 ?_
  | with_reducible refine Hj.r_meth ?_
  | with_reducible refine Hj.r_make ?_
  | with_reducible refine Hj.r_fldK ?_
  | with_reducible refine Hj.r_setK ?_
  | with_reducible refine Hj.r_sl ?_
  | with_reducible refine Hj.r_no ?_
  | with_reducible refine Hj.r_mkB ?_
  | with_reducible refine Hj.r_chain ?_
  | with_reducible refine Hj.r_leS ?_
  | with_reducible refine Hj.r_mkM ?_
  | with_reducible refine Hj.r_part ?_
  | with_reducible refine Hj.r_partI ?_
  | with_reducible refine Hj.r_m1 ?_
  | with_reducible refine Hj.r_strs ?_
  | with_reducible refine Hj.r_andV ?_
  | with_reducible refine Hj.r_orV ?_
  | with_reducible refine Hj.r_notV ?_
  | with_reducible refine Hj.r_for ?_
  | with_reducible refine Hj.r_rng ?_
  | with_reducible refine Hj.r_itL ?_
  | with_reducible refine Hj.r_itT ?_
  | with_reducible refine Hj.r_itS ?_
  | with_reducible refine Hj.r_itSE ?_))
local macro_rules | `(tactic| walk_at "rk") => `(tactic| repeat (first
  | with_reducible refine Hj.r_seq ?_
  | with_reducible refine Hj.r_nx ?_
  | with_reducible refine Hj.r_rt ?_
  | with_reducible refine L2.iteT ?_
  | with_reducible refine L2.iteF ?_
  | with_reducible refine Hj.r_set ?_
  | with_reducible refine Hj.r_gname ?_
  | with_reducible refine Hj.r_if ?_
  | with_reducible refine Hj.r_ret ?_
  | ((with_reducible show L2.tVar _ _ _ _); refine Hj.r_var rfl ?_)
  | with_reducible refine Hj.r_c ?_
  | with_reducible refine Hj.r_cons ?_
  | with_reducible refine Hj.r_nil ?_
  | with_reducible refine Hj.r_op ?_
  | with_reducible refine Hj.r_test ?_
  | with_reducible refine Hj.r_B ?_
  | with_reducible refine Hj.r_cb ?_
  | with_reducible refine Hj.r_blV ?_
  | with_reducible refine Hj.r_and ?_
  | with_reducible refine Hj.r_or ?_
  | with_reducible refine Hj.r_not ?_
  | with_reducible refine Hj.r_call ?_
  | with_reducible refine Hj.r_tupK ?_
  | with_reducible refine Hj.r_lstK ?_
  | with_reducible refine Hj.r_eqS ?_
  | with_reducible refine Hj.r_eqI ?_
  | with_reducible refine Hj.r_neS ?_
  | with_reducible refine Hj.r_neI ?_
  | with_reducible refine Hj.r_isN ?_
  | with_reducible refine Hj.r_I0 ?_
  | with_reducible refine Hj.r_addI ?_
  | with_reducible refine Hj.r_intOf ?_
  | with_reducible refine Hj.r_mx ?_
  | with_reducible refine Hj.r_un ?_
  | with_reducible refine Hj.r_neg ?_
  | with_reducible refine Hj.r_drop ?_
  | with_reducible refine Hj.r_next ?_
  | with_reducible refine Hj.r_retN ?_
  | with_reducible refine Hj.r_sub ?_
  | with_reducible refine Hj.r_asg ?_
  | with_reducible refine Hj.r_bm ?_
  | with_reducible refine Hj.r_bm0 ?_
  | with_reducible refine Hj.r_meth ?_
  | with_reducible refine Hj.r_make ?_
  | with_reducible refine Hj.r_fldK ?_
  | with_reducible refine Hj.r_setK ?_
  | with_reducible refine Hj.r_sl ?_
  | with_reducible refine Hj.r_no ?_
  | with_reducible refine Hj.r_mkB ?_
  | with_reducible refine Hj.r_chain ?_
  | with_reducible refine Hj.r_leS ?_
  | with_reducible refine Hj.r_mkM ?_
  | with_reducible refine Hj.r_part ?_
  | with_reducible refine Hj.r_partI ?_
  | with_reducible refine Hj.r_m1 ?_
  | with_reducible refine Hj.r_strs ?_
  | with_reducible refine Hj.r_andV ?_
  | with_reducible refine Hj.r_orV ?_
  | with_reducible refine Hj.r_notV ?_
  | with_reducible refine Hj.r_for ?_
  | with_reducible refine Hj.r_rng ?_
  | with_reducible refine Hj.r_itL ?_
  | with_reducible refine Hj.r_itT ?_
  | with_reducible refine Hj.r_itS ?_
  | with_reducible refine Hj.r_itSE ?_))
local macro_rules | `(tactic| walk_at "cl") => `(tactic| ((try dsimp only [L2.cxOf, L2.Cx.nox]); simp only [L2.start, List.map, List.length, List.replicate, List.cons_append, List.nil_append, Nat.reduceAdd, Nat.reduceSub]))
local macro_rules | `(tactic| walk_at "len") => `(tactic| (intro vs H Q E h; first
  | (obtain ⟨_, ee, _⟩ := h; subst ee; rfl) | (obtain ⟨_, _, ee, _⟩ := h; subst ee; rfl) | (obtain ⟨_, _, _, ee, _⟩ := h; subst ee; rfl) | (obtain ⟨_, _, _, _, ee, _⟩ := h; subst ee; rfl) | (obtain ⟨_, _, _, _, _, ee, _⟩ := h; subst ee; rfl) | (obtain ⟨_, _, _, _, _, _, ee, _⟩ := h; subst ee; rfl)
  | (obtain ⟨_, _, _, _, _, _, _, ee, _⟩ := h; subst ee; rfl) | (obtain ⟨_, _, _, _, _, _, _, _, ee, _⟩ := h; subst ee; rfl) | (obtain ⟨_, _, _, _, _, _, _, _, _, ee, _⟩ := h; subst ee; rfl) | (obtain ⟨_, _, _, _, _, _, _, _, _, _, ee, _⟩ := h; subst ee; rfl)))
namespace Hj
open PySem PySem.Spec L2
/-! ### one word, one step of the machine -/
theorem drop_cons {α : Type _} {ws : List α} {i : Nat} {z : α} (h : ws[i]? = some z) : ws.drop i = z :: ws.drop (i + 1) := by
  obtain ⟨hi, e⟩ := List.getElem?_eq_some_iff.mp h
  rw [List.drop_eq_getElem_cons hi, e]
theorem drop_none {α : Type _} {ws : List α} {i : Nat} (h : ws[i]? = none) : ws.drop i = [] := List.drop_eq_nil_of_le (List.getElem?_eq_none_iff.mp h)
/-- no word is left, and something waits -/
theorem mtot_out {s : MS} {p : Pend} (hp : s.pend = some p) {ws : List Str} {i : Nat} (h : ws[i]? = none) : mtot s (ws.drop i) = .bad 0 := by
  rw [drop_none h]
  simp only [mtot, mend, hp, Option.isSome_some, true_or, if_true]
theorem mtot_bad {s : MS} {p : Pend} (hp : s.pend = some p) {ws : List Str} {i : Nat} {z : Str} (h : ws[i]? = some z) (hn : pnext (scp s.stk) p z = none) : mtot s (ws.drop i) = .bad (ws.length - i) := by
  have hi := (List.getElem?_eq_some_iff.mp h).1
  rw [drop_cons h]
  simp only [mtot, mstep, hp, hn, Option.map_none, List.length_drop]
  congr 1
  omega
theorem mtot_go {s : MS} {p : Pend} (hp : s.pend = some p) {ws : List Str} {i : Nat} {z : Str} (h : ws[i]? = some z) {nx : Nx} (hn : pnext (scp s.stk) p z = some nx) : mtot s (ws.drop i) = mtot (mgo s nx) (ws.drop (i + 1)) := by
  rw [drop_cons h]
  simp only [mtot, mstep, hp, hn, Option.map_some]
theorem go_ok {s : MS} (hs : MSok s) {p : Pend} (hp : s.pend = some p) {z : Str} {nx : Nx} (hn : pnext (scp s.stk) p z = some nx) : MSok (mgo s nx) := mstep_ok hs (w := z) (by simp only [mstep, hp, hn, Option.map_some])
section
variable {P : Program} {w : World} {K : PySem.W.Frag} {mg : Str → Option Value} {base : Heap}
/-- a faulty word: its place -/
theorem bad_at {E : XK} {H0 : Hp} {s : MS} {p : Pend} {ws : List Str} {i : Nat} (hp : s.pend = some p) (hb : ∀ n, mtot s (ws.drop i) = .bad n → Bad K E H0 (ws.length - n)) (hi : i ≤ ws.length) :
    (ws[i]? = none → Bad K E H0 ws.length) ∧ ∀ z, ws[i]? = some z → pnext (scp s.stk) p z = none → Bad K E H0 i := by
  refine ⟨fun h => hb 0 (mtot_out hp h), fun z h hn => ?_⟩
  have := hb _ (mtot_bad hp h hn)
  have hl := (List.getElem?_eq_some_iff.mp h).1
  rw [show ws.length - (ws.length - i) = i by omega] at this
  exact this
theorem nk (x : Str) (h : [kTog, kOpen].contains x = true) : ¬ x = kNot := by
  rw [List.contains_iff_mem] at h
  simp only [List.mem_cons, List.not_mem_nil, or_false] at h
  rcases h with rfl | rfl
  · exact tog_not
  · exact open_not
/-! take_plain_test -/
def spTkP (K : PySem.W.Frag) : Sp := fun vs H Q E => ∃ (H0 : Hp) (r aw pbl : Addr) (ws : List Str) (i : Nat) (as ft : List Addr) (c d : Nat) (s : MS) (k : TK) (n : Bool), vs = [.ref r] ∧ MSok s ∧ RsAt K H0 H r aw pbl ws i as s.stk ft c d ∧ s.stk.length ≤ 300000 ∧ s.pend = some (if n = true then .tn k else .t0 k) ∧ (n = false → ws[i]? ≠ some kNot) ∧
  (∀ m, mtot s (ws.drop i) = .bad m → Bad K E H0 (ws.length - m)) ∧
  ∀ (x y z : Str) (p : Addr) (H' : Hp), ¬ x = kNot → H' p = some (.tup [.str x, .str y, .str z]) → mtot s (ws.drop i) = mtot { s with pend := some (.ty k n x y z) } (ws.drop (i + 3)) → MSok { s with pend := some (.ty k n x y z) } → RsAt K H0 H' r aw pbl ws (i + 3) as s.stk ft c d → Kp [r] H H' → Q (.ref p) H'
theorem sc_OrderReader_take_plain_test : FnScope ["self", "word", "x", "y"] ["self"] (defScope s_OrderReader_take_plain_test) := ⟨rfl, rfl, rfl, by decide +kernel, rfl, by decide +kernel, by decide +kernel⟩
theorem ok_RTkP {f : Addr} {fd : FuncData} (F : Fun K "take_plain_test" "OrderReader.take_plain_test" s_OrderReader_take_plain_test f fd) (T : Txt P K mg) (M_take_word : Mn P w K mg base (L2.CX P w) 6 (cR K) "take_word" ["self", "allowed"] (spTkW K)) (M_take_term : Mn P w K mg base (L2.CX P w) 6 (cR K) "take_term" ["self"] (spTkT K)) : FnOk P w K mg base (L2.CX P w) 7 f fd ["self"] (spTkP K) := by
  refine F.okX sc_OrderReader_take_plain_test ?_ (fun cdv A outer s0 H vs Q E hr0 h => ?_)
  · intro vs H Q E h
    obtain ⟨_, _, _, _, _, _, _, _, _, _, _, _, _, ee, _⟩ := h
    subst ee
    rfl
  obtain ⟨H0, r, aw, pbl, ws, i, as, ft, c, d, s, k, n, rfl, hs, R, hsl, hp, hnn, hb, q⟩ := h
  obtain ⟨dx, ho⟩ := R.o
  refine ⟨_, (pss_cons (ps_set (i := 1) sc_OrderReader_take_plain_test.nd rfl (Or.inl rfl) (pe_m T.clR M_take_word hr0 (passes_call (takes_of rfl rfl rfl rfl) (fun _ _ _ _ z => z)) (pv 0) (pa_cons (pe_gc T.gTEST_WORDS rfl) pa_nil))) (pss_cons (ps_set (i := 2) sc_OrderReader_take_plain_test.nd rfl (Or.inl rfl) (pe_m0 T.clR M_take_term hr0 (passes_call (takes_of rfl rfl rfl rfl) (fun _ _ _ _ z => z)) (pv 0))) (pss_cons (ps_set (i := 3) sc_OrderReader_take_plain_test.nd rfl (Or.inl rfl) (pe_m0 T.clR M_take_term hr0 (passes_call (takes_of rfl rfl rfl rfl) (fun _ _ _ _ z => z)) (pv 0))) (pss_one (ps_ret (pe_tup (pa_cons (pv 1) (pa_cons (pv 2) (pa_cons (pv 3) pa_nil))))))))), ?_⟩
  walk_at "cl"
  walk_at "rk"
  refine r_mt ho rfl ?_
  walk_at "rk"
  obtain ⟨b1, b2⟩ := bad_at hp hb R.l3
  have hp1 : ∀ z, ws[i]? = some z → pnext (scp s.stk) (if n = true then Pend.tn k else Pend.t0 k) z = if [kTog, kOpen].contains z = true then some (.more (.tw k n z)) else none := fun z ez => by
    have e : (z = kTog ∨ z = kOpen) ↔ [kTog, kOpen].contains z = true := by
      rw [List.contains_iff_mem]
      simp
    cases n with
    | true =>
      simp only [if_true, pnext, e]
    | false =>
      have hz : ¬ z = kNot := fun h => hnn rfl (by rw [ez, h])
      simp only [Bool.false_eq_true, if_false, pnext, if_neg hz, e]
  refine ⟨r, _, s.stk, [kTog, kOpen], rfl, .inr (T.tw _), H0, aw, pbl, ws, i, as, ft, c, d, R, b1, fun z ez hz => b2 z ez (by rw [hp1 z ez, if_neg (by rw [show [kTog, kOpen].contains z = false from hz]; simp)]), fun x H1 ex hx R1 k1 => ?_⟩
  have h1 : pnext (scp s.stk) (if n = true then Pend.tn k else Pend.t0 k) x = some (.more (.tw k n x)) := by rw [hp1 x ex, if_pos hx]
  have g1 := mtot_go hp ex h1
  have m1 := go_ok hs hp h1
  rw [g1] at hb
  obtain ⟨b3, b4⟩ := bad_at (s := mgo s (.more (.tw k n x))) (p := .tw k n x) rfl hb R1.l3
  obtain ⟨dx1, ho1⟩ := R1.o
  walk_at "rk"
  refine r_mt ho1 rfl ?_
  walk_at "rk"
  refine ⟨r, s.stk, rfl, hsl, H0, aw, pbl, ws, i + 1, as, ft, c, d, R1, b3, fun z ez hz => b4 z ez (show pnext (scp s.stk) (.tw k n x) z = none by simp [pnext, hz]), fun y H2 ey hy R2 k2 => ?_⟩
  have h2 : pnext (scp (mgo s (.more (.tw k n x))).stk) (.tw k n x) y = some (.more (.tx k n x y)) := show pnext (scp s.stk) (.tw k n x) y = _ by simp [pnext, hy]
  have g2 := mtot_go (s := mgo s (.more (.tw k n x))) rfl ey h2
  have m2 := go_ok m1 rfl h2
  rw [g2] at hb
  obtain ⟨b5, b6⟩ := bad_at (s := mgo s (.more (.tx k n x y))) (p := .tx k n x y) rfl hb R2.l3
  obtain ⟨dx2, ho2⟩ := R2.o
  walk_at "rk"
  refine r_mt ho2 rfl ?_
  walk_at "rk"
  refine ⟨r, s.stk, rfl, hsl, H0, aw, pbl, ws, i + 1 + 1, as, ft, c, d, R2, b5, fun z ez hz => b6 z ez (show pnext (scp s.stk) (.tx k n x y) z = none by simp [pnext, hz]), fun z H3 ez hz R3 k3 => ?_⟩
  have h3 : pnext (scp (mgo s (.more (.tx k n x y))).stk) (.tx k n x y) z = some (.more (.ty k n x y z)) := show pnext (scp s.stk) (.tx k n x y) z = _ by simp [pnext, hz]
  have g3 := mtot_go (s := mgo s (.more (.tx k n x y))) rfl ez h3
  have m3 := go_ok (s := mgo s (.more (.tx k n x y))) m2 rfl h3
  walk_at "rk"
  refine r_newT (by simp) fun p4 H4 n4 k4 e4 => ?_
  exact q x y z p4 H4 (nk x hx) e4 (g1.trans (g2.trans g3)) m3 (R3.keep0 k4) (((k1.trans k2).trans k3).trans k4.all)
/-! take_test -/
def spTkTest (K : PySem.W.Frag) : Sp := fun vs H Q E => ∃ (H0 : Hp) (r aw pbl : Addr) (ws : List Str) (i : Nat) (as ft : List Addr) (c d : Nat) (s : MS) (k : TK), vs = [.ref r] ∧ MSok s ∧ RsAt K H0 H r aw pbl ws i as s.stk ft c d ∧ s.stk.length ≤ 300000 ∧ s.pend = some (.t0 k) ∧
  (∀ m, mtot s (ws.drop i) = .bad m → Bad K E H0 (ws.length - m)) ∧
  ∀ (t : Tst) (v : V) (j : Nat) (H' : Hp), ¬ t.w = kNot → Dp K H' v (dT t) → i < j → mtot s (ws.drop i) = mtot { s with pend := some (.ty k t.neg t.w t.x t.y) } (ws.drop j) → MSok { s with pend := some (.ty k t.neg t.w t.x t.y) } → RsAt K H0 H' r aw pbl ws j as s.stk ft c d → Kp [r] H H' → Q v H'
theorem sc_OrderReader_take_test : FnScope ["self"] ["self"] (defScope s_OrderReader_take_test) := ⟨rfl, rfl, rfl, by decide +kernel, rfl, by decide +kernel, by decide +kernel⟩
theorem ok_RTkTest {f : Addr} {fd : FuncData} (F : Fun K "take_test" "OrderReader.take_test" s_OrderReader_take_test f fd) (T : Txt P K mg) (M_peek_word : Mn P w K mg base (L2.CX P w) 7 (cR K) "peek_word" ["self"] (spPeek K)) (M_take_plain_test : Mn P w K mg base (L2.CX P w) 7 (cR K) "take_plain_test" ["self"] (spTkP K)) : FnOk P w K mg base (L2.CX P w) 8 f fd ["self"] (spTkTest K) := by
  refine F.okX sc_OrderReader_take_test ?_ (fun cdv A outer s0 H vs Q E hr0 h => ?_)
  · intro vs H Q E h
    obtain ⟨_, _, _, _, _, _, _, _, _, _, _, _, ee, _⟩ := h
    subst ee
    rfl
  obtain ⟨H0, r, aw, pbl, ws, i, as, ft, c, d, s, k, rfl, hs, R, hsl, hp, hb, q⟩ := h
  obtain ⟨dx, ho⟩ := R.o
  obtain ⟨l1, l2, l3, l4, l5⟩ := lk_rfs aw (i : Int) pbl (c : Int) (d : Int)
  refine ⟨_, (pss_cons (ps_if (pt_cmpR op_eq (pe_m0 T.clR M_peek_word hr0 (passes_call (takes_of rfl rfl rfl rfl) (fun _ _ _ _ z => z)) (pv 0)) pe_str (nomark _)) (pss_cons (ps_fldaug (pv 0) pe_int in_add) (pss_one (ps_ret (pe_tup (pa_cons pe_str (pa_cons (pe_m0 T.clR M_take_plain_test hr0 (passes_call (takes_of rfl rfl rfl rfl) (fun _ _ _ _ z => z)) (pv 0)) pa_nil)))))) pss_nil) (pss_one (ps_ret (pe_m0 T.clR M_take_plain_test hr0 (passes_call (takes_of rfl rfl rfl rfl) (fun _ _ _ _ z => z)) (pv 0))))), ?_⟩
  walk_at "cl"
  walk_at "rk"
  refine r_mt ho rfl ?_
  walk_at "rk"
  obtain ⟨b1, b2⟩ := bad_at hp hb R.l3
  refine ⟨H0, r, aw, pbl, ws, i, as, s.stk, ft, c, d, rfl, R, b1, fun z H1 ez k1 => ?_⟩
  have R1 := R.keep0 k1
  have ho1 := k1.get ho (by simp)
  have hi : i < ws.length := (List.getElem?_eq_some_iff.mp ez).1
  walk_at "rk"
  refine r_d (fun c1 => ?_) (fun c1 => ?_)
  · have hz : z = kNot := c1
    subst hz
    have h1 : pnext (scp s.stk) (.t0 k) kNot = some (.more (.tn k)) := by simp only [pnext, if_true]
    have g1 := mtot_go hp ez h1
    have m1 := go_ok hs hp h1
    rw [g1] at hb
    walk_at "rk"
    refine r_aug rfl ho1 T.clR T.rA l2 (by simp [rfs]) fun H2 k2 e2 => ?_
    rw [(put_rfs _ _ _ _ _ _ 0).1] at e2
    have R2 := R1.setO (j := i + 1) (c' := c) (d' := d) (dx := dx) k2 (by rw [e2, Int.natCast_add]; rfl) hi
    walk_at "rk"
    obtain ⟨dx2, ho2⟩ := R2.o
    refine r_mt ho2 rfl ?_
    walk_at "rk"
    refine ⟨H0, r, aw, pbl, ws, i + 1, as, ft, c, d, mgo s (.more (.tn k)), k, true, rfl, m1, R2, hsl, rfl, (fun h => Bool.noConfusion h), hb, fun x y z p H3 xn e3 g3 m3 R3 k3 => ?_⟩
    walk_at "rk"
    refine r_newT (by simp) fun p4 H4 n4 k4 e4 => ?_
    exact q ⟨true, x, y, z⟩ _ (i + 1 + 3) H4 xn (dT_not rfl (SqT.of e4) (SqT.of (k4.tup e3))) (by omega) (g1.trans g3) m3 (R3.keep0 k4) (((k1.all.trans k2).trans k3).trans k4.all)
  · have hz : ¬ z = kNot := c1
    walk_at "rk"
    refine r_mt ho1 rfl ?_
    walk_at "rk"
    refine ⟨H0, r, aw, pbl, ws, i, as, ft, c, d, s, k, false, rfl, hs, R1, hsl, hp, fun _ h => hz (Option.some.inj (ez.symm.trans h)), hb, fun x y z p H3 xn e3 g3 m3 R3 k3 => ?_⟩
    exact q ⟨false, x, y, z⟩ _ (i + 3) H3 xn (dT_plain rfl (SqT.of e3)) (by omega) g3 m3 R3 (k1.all.trans k3)
/-! opposite_test -/
def spOpp (K : PySem.W.Frag) : Sp := fun vs H Q _ => ∃ (v : V) (t : Tst), vs = [v] ∧ Dp K H v (dT t) ∧ ¬ t.w = kNot ∧ ∀ (u : V) (H' : Hp), Dp K H' u (dT (opp t)) → Kp [] H H' → Q u H'
theorem sc_opposite_test : FnScope ["test"] ["test"] (defScope s_opposite_test) := ⟨rfl, rfl, rfl, by decide +kernel, rfl, by decide +kernel, by decide +kernel⟩
theorem ok_opposite_test {f : Addr} {fd : FuncData} (F : Fun K "opposite_test" "opposite_test" s_opposite_test f fd) (T : Txt P K mg) : FnOk P w K mg base CX0 1 f fd ["test"] (spOpp K) := by
  refine F.ok sc_opposite_test ?_ (fun cdv A outer s H vs Q E hr0 h => ?_)
  · walk_at "len"
  obtain ⟨v, t, rfl, dt, tn, q⟩ := h
  obtain ⟨p, rfl, ⟨hn, h1⟩ | ⟨hn, p2, h1, h2⟩⟩ := dT_view dt
  · refine ⟨_, (pss_cons (ps_if (pt_cmpR op_eq (pe_ix ix_seq (pv 0) pe_int (fun _ _ => rfl)) pe_str (nomark _)) (pss_one (ps_ret (pe_ix ix_seq (pv 0) pe_int (fun _ _ => rfl)))) pss_nil) (pss_one (ps_ret (pe_tup (pa_cons pe_str (pa_cons (pv 0) pa_nil)))))), ?_⟩
    walk_at "cl"
    walk_at "rk"
    refine r_ixT h1 (atI_nat (j := 0) rfl) ?_
    walk_at "rk"
    refine r_F (decide_eq_false tn) ?_
    walk_at "rk"
    refine r_newT (by simp) fun p3 H3 n3 k3 e3 => ?_
    exact q _ _ (dT_not (t := opp t) (by simp [opp, hn]) (SqT.of e3) (k3.sqT h1)) k3
  · refine ⟨_, (pss_cons (ps_if (pt_cmpR op_eq (pe_ix ix_seq (pv 0) pe_int (fun _ _ => rfl)) pe_str (nomark _)) (pss_one (ps_ret (pe_ix ix_seq (pv 0) pe_int (fun _ _ => rfl)))) pss_nil) (pss_one (ps_ret (pe_tup (pa_cons pe_str (pa_cons (pv 0) pa_nil)))))), ?_⟩
    walk_at "cl"
    walk_at "rk"
    refine r_ixT h1 (atI_nat (j := 0) rfl) ?_
    walk_at "rk"
    refine r_T (by decide +kernel) ?_
    walk_at "rk"
    refine r_ixT h1 (atI_nat (j := 1) rfl) ?_
    exact q _ _ (dT_plain (t := opp t) (by simp [opp, hn]) h2) .refl
end
end Hj
end
section
set_option Elab.async false
set_option linter.all false
set_option maxRecDepth 100000
set_option maxHeartbeats 8000000
local macro_rules | `(tactic| walk_at "rd") => `(tactic| repeat (first
  | with_reducible refine Hj.r_seq ?_
  | with_reducible refine Hj.r_nx ?_
  | with_reducible refine Hj.r_rt ?_
  | with_reducible refine L2.iteT ?_
  | with_reducible refine L2.iteF ?_
  | with_reducible refine Hj.r_set ?_
  | with_reducible refine Hj.r_gname ?_
  | with_reducible refine Hj.r_if ?_
  | with_reducible refine Hj.r_ret ?_
  | ((with_reducible show L2.tVar _ _ _ _); refine Hj.r_var rfl ?_)
  | with_reducible refine Hj.r_c ?_
  | with_reducible refine Hj.r_cons ?_
  | with_reducible refine Hj.r_nil ?_
  | with_reducible refine Hj.r_op ?_
  | with_reducible refine Hj.r_test ?_
  | with_reducible refine Hj.r_B ?_
  | with_reducible refine Hj.r_cb ?_
  | with_reducible refine Hj.r_blV ?_
  | with_reducible refine Hj.r_and ?_
  | with_reducible refine Hj.r_or ?_
  | with_reducible refine Hj.r_not ?_
  | with_reducible refine Hj.r_call ?_
  | with_reducible refine Hj.r_tup ?_
  | with_reducible refine Hj.r_lst ?_
  | with_reducible refine Hj.r_eqS ?_
  | with_reducible refine Hj.r_eqI ?_
  | with_reducible refine Hj.r_neS ?_
  | with_reducible refine Hj.r_neI ?_
  | with_reducible refine Hj.r_isN ?_
  | with_reducible refine Hj.r_I0 ?_
  | with_reducible refine Hj.r_addI ?_
  | with_reducible refine Hj.r_intOf ?_
  | with_reducible refine Hj.r_mx ?_
  | with_reducible refine Hj.r_un ?_
  | with_reducible refine Hj.r_neg ?_
  | with_reducible refine Hj.r_drop ?_
  | with_reducible refine Hj.r_next ?_
  | with_reducible refine Hj.r_retN ?_
  | with_reducible refine Hj.r_sub ?_
  | with_reducible refine Hj.r_asg ?_
  | with_reducible refine Hj.r_bm ?_
  | with_reducible refine Hj.r_bm0 ?_
  | with_reducible refine Hj.r_meth ?_
  | with_reducible refine Hj.r_make ?_
  | with_reducible refine Hj.r_fldK ?_
  | with_reducible refine Hj.r_setK ?_
  | with_reducible refine Hj.r_sl ?_
  | with_reducible refine Hj.r_no ?_
  | with_reducible refine Hj.r_mkB ?_
  | with_reducible refine Hj.r_chain ?_
  | with_reducible refine Hj.r_leS ?_
  | with_reducible refine Hj.r_mkM ?_
  | with_reducible refine Hj.r_part ?_
  | with_reducible refine Hj.r_partI ?_
  | with_reducible refine Hj.r_m1 ?_
  | with_reducible refine Hj.r_strs ?_
  | with_reducible refine Hj.r_andV ?_
  | with_reducible refine Hj.r_orV ?_
  | with_reducible refine Hj.r_notV ?_
  | with_reducible refine Hj.r_for ?_
  | with_reducible refine Hj.r_rng ?_
  | with_reducible refine Hj.r_itL ?_
  | with_reducible refine Hj.r_itT ?_
  | with_reducible refine Hj.r_itS ?_
  | with_reducible refine Hj.r_itSE ?_))
local macro_rules | `(tactic| walk_at "rk") => `(tactic| repeat (first
  | with_reducible refine Hj.r_seq ?_
  | with_reducible refine Hj.r_nx ?_
  | with_reducible refine Hj.r_rt ?_
  | with_reducible refine L2.iteT ?_
  | with_reducible refine L2.iteF ?_
  | with_reducible refine Hj.r_set ?_
  | with_reducible refine Hj.r_gname ?_
  | with_reducible refine Hj.r_if ?_
  | with_reducible refine Hj.r_ret ?_
  | ((with_reducible show L2.tVar _ _ _ _); refine Hj.r_var rfl ?_)
  | with_reducible refine Hj.r_c ?_
  | with_reducible refine Hj.r_cons ?_
  | with_reducible refine Hj.r_nil ?_
  | with_reducible refine Hj.r_op ?_
  | with_reducible refine Hj.r_test ?_
  | with_reducible refine Hj.r_B ?_
  | with_reducible refine Hj.r_cb ?_
  | with_reducible refine Hj.r_blV ?_
  | with_reducible refine Hj.r_and ?_
  | with_reducible refine Hj.r_or ?_
  | with_reducible refine Hj.r_not ?_
  | with_reducible refine Hj.r_call ?_
  | with_reducible refine Hj.r_tupK ?_
  | with_reducible refine Hj.r_lstK ?_
  | with_reducible refine Hj.r_eqS ?_
  | with_reducible refine Hj.r_eqI ?_
  | with_reducible refine Hj.r_neS ?_
  | with_reducible refine Hj.r_neI ?_
  | with_reducible refine Hj.r_isN ?_
  | with_reducible refine Hj.r_I0 ?_
  | with_reducible refine Hj.r_addI ?_
  | with_reducible refine Hj.r_intOf ?_
  | with_reducible refine Hj.r_mx ?_
  | with_reducible refine Hj.r_un ?_
  | with_reducible refine Hj.r_neg ?_
  | with_reducible refine Hj.r_drop ?_
  | with_reducible refine Hj.r_next ?_
  | with_reducible refine Hj.r_retN ?_
  | with_reducible refine Hj.r_sub ?_
  | with_reducible refine Hj.r_asg ?_
  | with_reducible refine Hj.r_bm ?_
  | with_reducible refine Hj.r_bm0 ?_
  | with_reducible refine Hj.r_meth ?_
  | with_reducible refine Hj.r_make ?_
  | with_reducible refine Hj.r_fldK ?_
  | with_reducible refine Hj.r_setK ?_
  | with_reducible refine Hj.r_sl ?_
  | with_reducible refine Hj.r_no ?_
  | with_reducible refine Hj.r_mkB ?_
  | with_reducible refine Hj.r_chain ?_
  | with_reducible refine Hj.r_leS ?_
  | with_reducible refine Hj.r_mkM ?_
  | with_reducible refine Hj.r_part ?_
  | with_reducible refine Hj.r_partI ?_
  | with_reducible refine Hj.r_m1 ?_
  | with_reducible refine Hj.r_strs ?_
  | with_reducible refine Hj.r_andV ?_
  | with_reducible refine Hj.r_orV ?_
  | with_reducible refine Hj.r_notV ?_
  | with_reducible refine Hj.r_for ?_
  | with_reducible refine Hj.r_rng ?_
  | with_reducible refine Hj.r_itL ?_
  | with_reducible refine Hj.r_itT ?_
  | with_reducible refine Hj.r_itS ?_
  | with_reducible refine Hj.r_itSE ?_))
local macro_rules | `(tactic| walk_at "cl") => `(tactic| ((try dsimp only [L2.cxOf, L2.Cx.nox]); simp only [L2.start, List.map, List.length, List.replicate, List.cons_append, List.nil_append, Nat.reduceAdd, Nat.reduceSub]))
local macro_rules | `(tactic| walk_at "len") => `(tactic| (intro vs H Q E h; first
  | (obtain ⟨_, ee, _⟩ := h; subst ee; rfl) | (obtain ⟨_, _, ee, _⟩ := h; subst ee; rfl) | (obtain ⟨_, _, _, ee, _⟩ := h; subst ee; rfl) | (obtain ⟨_, _, _, _, ee, _⟩ := h; subst ee; rfl) | (obtain ⟨_, _, _, _, _, ee, _⟩ := h; subst ee; rfl) | (obtain ⟨_, _, _, _, _, _, ee, _⟩ := h; subst ee; rfl)
  | (obtain ⟨_, _, _, _, _, _, _, ee, _⟩ := h; subst ee; rfl) | (obtain ⟨_, _, _, _, _, _, _, _, ee, _⟩ := h; subst ee; rfl) | (obtain ⟨_, _, _, _, _, _, _, _, _, ee, _⟩ := h; subst ee; rfl) | (obtain ⟨_, _, _, _, _, _, _, _, _, _, ee, _⟩ := h; subst ee; rfl)))
namespace Hj
open PySem PySem.Spec L2
section
variable {P : Program} {w : World} {K : PySem.W.Frag} {mg : Str → Option Value} {base : Heap}
/-! ### a statement at the top -/
theorem RsAt.add {H0 H H1 H2 : Hp} {r aw pbl : Addr} {ws : List Str} {i : Nat} {a : Addr} {as : List Addr} {f : Fr} {fs : List Fr} {f1 f2 : List Addr} {c d : Nat} {pc : Addr} {t : Stm} (R : RsAt K H0 H r aw pbl ws i (a :: as) (f :: fs) (f1 ++ f2) c d) (h2 : StkB K H as fs f2) (k : Kp [] H H1) (hpc : pc ∈ f1) (kp : Kp [pc] H1 H2) (B : BlkAt K H2 a { f with cur := f.cur ++ [t] } f1) :
    RsAt K H0 H2 r aw pbl ws i (a :: as) (addS t (f :: fs)) (f1 ++ f2) c d := by
  have R1 := R.keep0 k
  obtain ⟨⟨s1, s2, s3⟩, ⟨s4, s5⟩, s6, s7⟩ := R.sep
  obtain ⟨n1, n2, n3⟩ := List.nodup_append.mp s7
  obtain ⟨dx, ho⟩ := R1.o
  have hm : pc ∈ f1 ++ f2 := List.mem_append_left _ hpc
  refine ⟨⟨dx, kp.get ho (fun h => s3 (List.mem_singleton.mp h ▸ hm))⟩, kp.get R1.w (fun h => s5 (List.mem_singleton.mp h ▸ hm)), kp.get R1.b (fun h => s6 (List.mem_singleton.mp h ▸ hm)), ⟨f1, f2, rfl, B, (h2.keep k (by simp)).keep kp fun x hx h => ?_⟩, R.nd, R.fr, R1.kpy (List.mem_cons_of_mem _ (List.mem_cons_of_mem _ (List.mem_cons_of_mem _ hm))) kp, R.l1, R.l2, R.l3⟩
  have : x = pc := List.mem_singleton.mp h
  subst this
  exact n3 x hpc x hx rfl
/-! allowed_words -/
def alw (stk : List Fr) : List Str := [kJoin, kClear, kIf, kWhile, kUntil, kEach] ++ ((if 1 < stk.length then [kEnd] else []) ++ (match stk with
  | f :: _ => if tkE f = true then [kElse] else []
  | [] => []))
def spAlw (K : PySem.W.Frag) : Sp := fun vs H Q _ => ∃ (H0 : Hp) (r aw pbl : Addr) (ws : List Str) (i : Nat) (as : List Addr) (stk : List Fr) (ft : List Addr) (c d : Nat), vs = [.ref r] ∧ RsAt K H0 H r aw pbl ws i as stk ft c d ∧ stk ≠ [] ∧ ∀ (p : Addr) (H' : Hp), H p = none → H' p = some (.lst ((alw stk).map V.str)) → Kp [] H H' → Q (.ref p) H'
theorem sc_OrderReader_allowed_words : FnScope ["self", "allowed"] ["self"] (defScope s_OrderReader_allowed_words) := ⟨rfl, rfl, rfl, by decide +kernel, rfl, by decide +kernel, by decide +kernel⟩
theorem ok_RAlw {f : Addr} {fd : FuncData} (F : Fun K "allowed_words" "OrderReader.allowed_words" s_OrderReader_allowed_words f fd) (T : Txt P K mg) (M_takes_else : Mn P w K mg base CX0 1 (cB K) "takes_else" ["self"] (spBElse K)) : FnOk P w K mg base CX0 2 f fd ["self"] (spAlw K) := by
  refine F.ok sc_OrderReader_allowed_words ?_ (fun cdv A outer s H vs Q E hr0 h => ?_)
  · intro vs H Q E h
    obtain ⟨_, _, _, _, _, _, _, _, _, _, _, ee, _⟩ := h
    subst ee
    rfl
  obtain ⟨H0, r, aw, pbl, ws, i, as, stk, ft, c, d, rfl, R, hne, q⟩ := h
  obtain ⟨dx, ho⟩ := R.o
  obtain ⟨l1, l2, l3, l4, l5⟩ := lk_rfs aw (i : Int) pbl (c : Int) (d : Int)
  obtain ⟨f1, rst, rfl⟩ : ∃ f r, stk = f :: r := by
    cases stk with
    | nil => exact absurd rfl hne
    | cons f r => exact ⟨f, r, rfl⟩
  obtain ⟨a1, as', fo1, fo2, rfl, rfl, hfa, hsr⟩ := R.st.top
  have Rb := R.b
  rw [rev_consB] at Rb
  have hlen := R.st.len
  refine ⟨_, (pss_cons (ps_set (i := 1) sc_OrderReader_allowed_words.nd rfl (Or.inl rfl) (pe_callTy call_lstOf (by rfl) T.zlist (by decide +kernel) (pa_cons (pe_gc T.gSTATEMENT_WORDS rfl) pa_nil))) (Evl.pss_cut (ps_if (pt_cmpR op_gt (pe_callB call_lenA (by rfl) T.zlen (by decide +kernel) (pa_cons (pe_fld (pv 0) rfl) pa_nil)) pe_int (nomark _)) (pss_one (ps_expr (pe_bm PySem.F.plainAttrs_list PySem.F.slot_list_append PySem.F.type_list_append mt_append (pv 1) (pa_cons pe_str pa_nil)))) pss_nil) (Evl.pss_cut (ps_if (pt_val (pe_m0 T.clB M_takes_else hr0 pass0 (pe_ix ix_seq (pe_fld (pv 0) rfl) (pe_un un_neg pe_int) (fun _ _ => rfl)))) (pss_one (ps_expr (pe_bm PySem.F.plainAttrs_list PySem.F.slot_list_append PySem.F.type_list_append mt_append (pv 1) (pa_cons pe_str pa_nil)))) pss_nil) (pss_one (ps_ret (pv 1)))))), ?_⟩
  walk_at "cl"
  walk_at "rk"
  refine r_lstOfTK (T.sw H) fun p1 H1 n1 k1 e1 => ?_
  walk_at "rk"
  have np : ∀ {x : Addr} {o : HO}, H x = some o → x ≠ p1 := fun h e => by rw [e, n1] at h; cases h
  refine r_cut (fun σ' H' => σ' = [some (.ref r), some (.ref p1)] ∧ H' p1 = some (.lst (([kJoin, kClear, kIf, kWhile, kUntil, kEach] ++ (if 1 < (f1 :: rst).length then [kEnd] else [])).map V.str)) ∧ Kp [p1] H1 H') ?_ ?_
  · walk_at "rk"
    refine r_get (k1.get ho (by simp)) T.clR T.rB l3 ?_
    walk_at "rk"
    refine r_lenL (SqL.of (k1.get R.b (by simp))) ?_
    walk_at "rk"
    rw [List.length_map, List.length_reverse, hlen]
    refine r_d (fun c1 => ?_) (fun c1 => ?_)
    · walk_at "rk"
      refine r_tyL (SqL.of e1) ?_
      walk_at "rk"
      refine r_appK e1 (by simp) fun H2 k2 e2 => ?_
      refine ⟨rfl, ?_, k2⟩
      rw [e2, if_pos (by omega)]
      rfl
    · walk_at "rk"
      refine ⟨rfl, ?_, .refl⟩
      rw [e1, if_neg (by omega)]
      rfl
  · rintro σ' H2 ⟨rfl, e2, k2⟩
    have K2 : Kp [p1] H H2 := k1.all.trans k2
    have g2 : ∀ {x : Addr} {o : HO}, H x = some o → H2 x = some o := fun h => K2.get h (by simpa using np h)
    have hfb : BlkAt K H2 a1 f1 fo1 := hfa.keep K2 fun x hx hm => hfa.ne x hx (List.mem_singleton.mp hm ▸ n1)
    have kfin : Kp [] H H2 := k1.young k2 fun b hb => by rw [List.mem_singleton.mp hb]; exact n1
    walk_at "rk"
    refine r_cut (fun σ' H' => σ' = [some (.ref r), some (.ref p1)] ∧ H' p1 = some (.lst ((alw (f1 :: rst)).map V.str)) ∧ Kp [] H H') ?_ ?_
    · walk_at "rk"
      refine r_get (g2 ho) T.clR T.rB l3 ?_
      walk_at "rk"
      refine r_ixL (SqL.of (g2 Rb)) (atI_last _ _) ?_
      obtain ⟨kk, vt, pc, po, dxb, t, cs, os, h1, h2, h3, h4, rfl, h6⟩ := hfb.ex
      refine r_mt h1 rfl ?_
      walk_at "rk"
      refine ⟨a1, f1, [a1, pc, po], rfl, hfb, fun H3 k3 => ?_⟩
      walk_at "rk"
      cases ht : tkE f1 with
      | true =>
        refine r_T rfl ?_
        walk_at "rk"
        refine r_tyL (SqL.of (k3.get e2 (by simp))) ?_
        walk_at "rk"
        refine r_appK (k3.get e2 (by simp)) (by rw [List.length_map]; simp; split <;> simp) fun H4 k4 e4 => ?_
        refine ⟨rfl, ?_, (kfin.trans k3).young k4 fun b hb => by rw [List.mem_singleton.mp hb]; exact n1⟩
        rw [e4]
        unfold alw
        simp only [ht, if_true, List.map_append, List.append_assoc]
        rfl
      | false =>
        refine r_F rfl ?_
        walk_at "rk"
        refine ⟨rfl, ?_, kfin.trans k3⟩
        rw [k3.get e2 (by simp)]
        unfold alw
        simp only [ht, Bool.false_eq_true, if_false, List.append_nil]
    · rintro σ' H5 ⟨rfl, e5, k5⟩
      walk_at "rk"
      exact q p1 H5 n1 e5 k5
/-! leave_block -/
def spLeave (K : PySem.W.Frag) : Sp := fun vs H Q _ => ∃ (H0 : Hp) (r aw pbl : Addr) (ws : List Str) (i : Nat) (as : List Addr) (f g : Fr) (rst : List Fr) (ft : List Addr) (c d : Nat), vs = [.ref r] ∧ RsAt K H0 H r aw pbl ws i as (f :: g :: rst) ft c d ∧ f.hd ≠ .root ∧ (f.oth ≠ none → isIf f.hd) ∧ g.cur.length < 1000000 ∧
  ∀ (as' ft' : List Addr) (H' : Hp), RsAt K H0 H' r aw pbl ws i as' (addS (clo f) (g :: rst)) ft' c d → Q .non H'
theorem sc_OrderReader_leave_block : FnScope ["self", "block"] ["self"] (defScope s_OrderReader_leave_block) := ⟨rfl, rfl, rfl, by decide +kernel, rfl, by decide +kernel, by decide +kernel⟩
theorem ok_RLeave {f : Addr} {fd : FuncData} (F : Fun K "leave_block" "OrderReader.leave_block" s_OrderReader_leave_block f fd) (T : Txt P K mg) (M_add_statement : Mn P w K mg base CX0 1 (cB K) "add_statement" ["self", "statement"] (spBAdd K)) (M_closed_statement : Mn P w K mg base CX0 1 (cB K) "closed_statement" ["self"] (spBClosed K)) : FnOk P w K mg base CX0 2 f fd ["self"] (spLeave K) := by
  refine F.ok sc_OrderReader_leave_block ?_ (fun cdv A outer s H vs Q E hr0 h => ?_)
  · intro vs H Q E h
    obtain ⟨_, _, _, _, _, _, _, _, _, _, _, _, _, ee, _⟩ := h
    subst ee
    rfl
  obtain ⟨H0, r, aw, pbl, ws, i, as, f, g, rst, ft, c, d, rfl, R, hnr, hot, lg, q⟩ := h
  obtain ⟨dx, ho⟩ := R.o
  obtain ⟨l1, l2, l3, l4, l5⟩ := lk_rfs aw (i : Int) pbl (c : Int) (d : Int)
  obtain ⟨a1, as', fo1, fo2, rfl, rfl, hfa, hsr⟩ := R.st.top
  obtain ⟨a2, as2, fo3, fo4, rfl, rfl, hfg, hsr2⟩ := hsr.top
  have Rb := R.b
  rw [rev_consB] at Rb
  obtain ⟨⟨s1, s2, s3⟩, ⟨s4, s5⟩, s6, s7⟩ := R.sep
  refine ⟨_, (pss_cons (ps_set (i := 1) sc_OrderReader_leave_block.nd rfl (Or.inl rfl) (pe_bm0 PySem.F.plainAttrs_list PySem.F.slot_list_pop PySem.F.type_list_pop mt_pop (pe_fld (pv 0) rfl))) (pss_one (ps_expr (pe_m T.clB M_add_statement hr0 pass0 (pe_ix ix_seq (pe_fld (pv 0) rfl) (pe_un un_neg pe_int) (fun _ _ => rfl)) (pa_cons (pe_m0 T.clB M_closed_statement hr0 pass0 (pv 1)) pa_nil))))), ?_⟩
  walk_at "cl"
  walk_at "rk"
  refine r_get ho T.clR T.rB l3 ?_
  refine r_tyL (SqL.of Rb) ?_
  refine r_popK (y := .ref a1) Rb (by simp) fun H2 k2 e2 => ?_
  rw [List.dropLast_concat] at e2
  have R2 : RsAt K H0 H2 r aw pbl ws i (a2 :: as2) (g :: rst) (fo3 ++ fo4) c d := by
    refine ⟨⟨dx, k2.get ho (by simpa using s2)⟩, k2.get R.w (by simpa using s4), e2, hsr.keep k2 fun x hx hm => s6 (List.mem_append_right _ (List.mem_singleton.mp hm ▸ hx)), ?_, fun x hx => R.fr x ?_, R.kpy (x := pbl) (by simp) k2, R.l1, R.l2, R.l3⟩
    · have := R.nd
      simp only [List.nodup_cons, List.mem_cons, List.mem_append, not_or] at this ⊢
      obtain ⟨⟨t1, t2, t3, t4⟩, ⟨t5, t6, t7⟩, ⟨t8, t9⟩, ta⟩ := this
      exact ⟨⟨t1, t2, t4⟩, ⟨t5, t7⟩, t9, (List.nodup_append.mp ta).2.1⟩
    · simp only [List.mem_cons, List.mem_append] at hx ⊢
      rcases hx with h | h | h | h
      · exact .inl h
      · exact .inr (.inl h)
      · exact .inr (.inr (.inl h))
      · exact .inr (.inr (.inr (.inr h)))
  have hfa2 : BlkAt K H2 a1 f fo1 := hfa.keep k2 fun x hx hm => s6 (List.mem_append_left _ (List.mem_singleton.mp hm ▸ hx))
  have hfg2 : BlkAt K H2 a2 g fo3 := hfg.keep k2 fun x hx hm => s6 (List.mem_append_right _ (List.mem_append_left _ (List.mem_singleton.mp hm ▸ hx)))
  have hsr22 : StkB K H2 as2 rst fo4 := hsr2.keep k2 fun x hx hm => s6 (List.mem_append_right _ (List.mem_append_right _ (List.mem_singleton.mp hm ▸ hx)))
  have nd3 : fo3.Nodup := (List.nodup_append.mp (List.nodup_append.mp s7).2.1).1
  obtain ⟨dx2, ho2⟩ := R2.o
  have Rb2 := R2.b
  rw [rev_consB] at Rb2
  walk_at "rk"
  refine r_get ho2 T.clR T.rB l3 ?_
  walk_at "rk"
  refine r_ixL (SqL.of Rb2) (atI_last _ _) ?_
  obtain ⟨kk, vt, pc, po, dxb, t, cs, os, h1, h2, h3, h4, rfl, h6⟩ := hfg2.ex
  refine r_mt h1 rfl ?_
  walk_at "rk"
  obtain ⟨kk', vt', pc', po', dxb', t', cs', os', h1', h2', h3', h4', rfl, h6'⟩ := hfa2.ex
  refine r_mt h1' rfl ?_
  walk_at "rk"
  refine ⟨a1, f, [a1, pc', po'], rfl, hfa2, hnr, hot, fun v H3 dv k3 => ?_⟩
  walk_at "rk"
  refine ⟨a2, g, [a2, pc, po], v, clo f, rfl, hfg2.keep k3 (by simp), nd3, lg, dv, fun pz H4 hpz k4 B4 => ?_⟩
  walk_at "rk"
  exact q (a2 :: as2) ([a2, pc, po] ++ fo4) H4 (R2.add hsr22 k3 hpz k4 B4)
end
end Hj
end
section
set_option Elab.async false
set_option linter.all false
set_option maxRecDepth 100000
set_option maxHeartbeats 16000000
local macro_rules | `(tactic| walk_at "rd") => `(tactic| repeat (first
  | with_reducible refine Hj.r_seq ?_
  | with_reducible refine Hj.r_nx ?_
  | with_reducible refine Hj.r_rt ?_
  | with_reducible refine L2.iteT ?_
  | with_reducible refine L2.iteF ?_
  | with_reducible refine Hj.r_set ?_
  | with_reducible refine Hj.r_gname ?_
  | with_reducible refine Hj.r_if ?_
  | with_reducible refine Hj.r_ret ?_
  | ((with_reducible show L2.tVar _ _ _ _); refine Hj.r_var rfl ?_)
  | with_reducible refine Hj.r_c ?_
  | with_reducible refine Hj.r_cons ?_
  | with_reducible refine Hj.r_nil ?_
  | with_reducible refine Hj.r_op ?_
  | with_reducible refine Hj.r_test ?_
  | with_reducible refine Hj.r_B ?_
  | with_reducible refine Hj.r_cb ?_
  | with_reducible refine Hj.r_blV ?_
  | with_reducible refine Hj.r_and ?_
  | with_reducible refine Hj.r_or ?_
  | with_reducible refine Hj.r_not ?_
  | with_reducible refine Hj.r_call ?_
  | with_reducible refine Hj.r_tup ?_
  | with_reducible refine Hj.r_lst ?_
  | with_reducible refine Hj.r_eqS ?_
  | with_reducible refine Hj.r_eqI ?_
  | with_reducible refine Hj.r_neS ?_
  | with_reducible refine Hj.r_neI ?_
  | with_reducible refine Hj.r_isN ?_
  | with_reducible refine Hj.r_I0 ?_
  | with_reducible refine Hj.r_addI ?_
  | with_reducible refine Hj.r_intOf ?_
  | with_reducible refine Hj.r_mx ?_
  | with_reducible refine Hj.r_un ?_
  | with_reducible refine Hj.r_neg ?_
  | with_reducible refine Hj.r_drop ?_
  | with_reducible refine Hj.r_next ?_
  | with_reducible refine Hj.r_retN ?_
  | with_reducible refine Hj.r_sub ?_
  | with_reducible refine Hj.r_asg ?_
  | with_reducible refine Hj.r_bm ?_
  | with_reducible refine Hj.r_bm0 ?_
  | with_reducible refine Hj.r_meth ?_
  | with_reducible refine Hj.r_make ?_
  | with_reducible refine Hj.r_fldK ?_
  | with_reducible refine Hj.r_setK ?_
  | with_reducible refine Hj.r_sl ?_
  | with_reducible refine Hj.r_no ?_
  | with_reducible refine Hj.r_mkB ?_
  | with_reducible refine Hj.r_chain ?_
  | with_reducible refine Hj.r_leS ?_
  | with_reducible refine Hj.r_mkM ?_
  | with_reducible refine Hj.r_part ?_
  | with_reducible refine Hj.r_partI ?_
  | with_reducible refine Hj.r_m1 ?_
  | with_reducible refine Hj.r_strs ?_
  | with_reducible refine Hj.r_andV ?_
  | with_reducible refine Hj.r_orV ?_
  | with_reducible refine Hj.r_notV ?_
  | with_reducible refine Hj.r_for ?_
  | with_reducible refine Hj.r_rng ?_
  | with_reducible refine Hj.r_itL ?_
  | with_reducible refine Hj.r_itT ?_
  | with_reducible refine Hj.r_itS ?_
  | with_reducible refine Hj.r_itSE ?_))
local macro_rules | `(tactic| walk_at "rk") => `(tactic| repeat (first
  | with_reducible refine Hj.r_seq ?_
  | with_reducible refine Hj.r_nx ?_
  | with_reducible refine Hj.r_rt ?_
  | with_reducible refine L2.iteT ?_
  | with_reducible refine L2.iteF ?_
  | with_reducible refine Hj.r_set ?_
  | with_reducible refine Hj.r_gname ?_
  | with_reducible refine Hj.r_if ?_
  | with_reducible refine Hj.r_ret ?_
  | ((with_reducible show L2.tVar _ _ _ _); refine Hj.r_var rfl ?_)
  | with_reducible refine Hj.r_c ?_
  | with_reducible refine Hj.r_cons ?_
  | with_reducible refine Hj.r_nil ?_
  | with_reducible refine Hj.r_op ?_
  | with_reducible refine Hj.r_test ?_
  | with_reducible refine Hj.r_B ?_
  | with_reducible refine Hj.r_cb ?_
  | with_reducible refine Hj.r_blV ?_
  | with_reducible refine Hj.r_and ?_
  | with_reducible refine Hj.r_or ?_
  | with_reducible refine Hj.r_not ?_
  | with_reducible refine Hj.r_call ?_
  | with_reducible refine Hj.r_tupK ?_
  | with_reducible refine Hj.r_lstK ?_
  | with_reducible refine Hj.r_eqS ?_
  | with_reducible refine Hj.r_eqI ?_
  | with_reducible refine Hj.r_neS ?_
  | with_reducible refine Hj.r_neI ?_
  | with_reducible refine Hj.r_isN ?_
  | with_reducible refine Hj.r_I0 ?_
  | with_reducible refine Hj.r_addI ?_
  | with_reducible refine Hj.r_intOf ?_
  | with_reducible refine Hj.r_mx ?_
  | with_reducible refine Hj.r_un ?_
  | with_reducible refine Hj.r_neg ?_
  | with_reducible refine Hj.r_drop ?_
  | with_reducible refine Hj.r_next ?_
  | with_reducible refine Hj.r_retN ?_
  | with_reducible refine Hj.r_sub ?_
  | with_reducible refine Hj.r_asg ?_
  | with_reducible refine Hj.r_bm ?_
  | with_reducible refine Hj.r_bm0 ?_
  | with_reducible refine Hj.r_meth ?_
  | with_reducible refine Hj.r_make ?_
  | with_reducible refine Hj.r_fldK ?_
  | with_reducible refine Hj.r_setK ?_
  | with_reducible refine Hj.r_sl ?_
  | with_reducible refine Hj.r_no ?_
  | with_reducible refine Hj.r_mkB ?_
  | with_reducible refine Hj.r_chain ?_
  | with_reducible refine Hj.r_leS ?_
  | with_reducible refine Hj.r_mkM ?_
  | with_reducible refine Hj.r_part ?_
  | with_reducible refine Hj.r_partI ?_
  | with_reducible refine Hj.r_m1 ?_
  | with_reducible refine Hj.r_strs ?_
  | with_reducible refine Hj.r_andV ?_
  | with_reducible refine Hj.r_orV ?_
  | with_reducible refine Hj.r_notV ?_
  | with_reducible refine Hj.r_for ?_
  | with_reducible refine Hj.r_rng ?_
  | with_reducible refine Hj.r_itL ?_
  | with_reducible refine Hj.r_itT ?_
  | with_reducible refine Hj.r_itS ?_
  | with_reducible refine Hj.r_itSE ?_))
local macro_rules | `(tactic| walk_at "cl") => `(tactic| ((try dsimp only [L2.cxOf, L2.Cx.nox]); simp only [L2.start, List.map, List.length, List.replicate, List.cons_append, List.nil_append, Nat.reduceAdd, Nat.reduceSub]))
local macro_rules | `(tactic| walk_at "len") => `(tactic| (intro vs H Q E h; first
  | (obtain ⟨_, ee, _⟩ := h; subst ee; rfl) | (obtain ⟨_, _, ee, _⟩ := h; subst ee; rfl) | (obtain ⟨_, _, _, ee, _⟩ := h; subst ee; rfl) | (obtain ⟨_, _, _, _, ee, _⟩ := h; subst ee; rfl) | (obtain ⟨_, _, _, _, _, ee, _⟩ := h; subst ee; rfl) | (obtain ⟨_, _, _, _, _, _, ee, _⟩ := h; subst ee; rfl)
  | (obtain ⟨_, _, _, _, _, _, _, ee, _⟩ := h; subst ee; rfl) | (obtain ⟨_, _, _, _, _, _, _, _, ee, _⟩ := h; subst ee; rfl) | (obtain ⟨_, _, _, _, _, _, _, _, _, ee, _⟩ := h; subst ee; rfl) | (obtain ⟨_, _, _, _, _, _, _, _, _, _, ee, _⟩ := h; subst ee; rfl)))
namespace Hj
open PySem PySem.Spec L2
section
variable {P : Program} {w : World} {K : PySem.W.Frag} {mg : Str → Option Value} {base : Heap}
/-! ### enter_block -/
/-- what waits behind a block's word -/
def blkP : Pend → Option (Option TK)
  | .each0 => some none
  | .t0 k => some (some k)
  | _ => none
theorem okTst_pend {sc : List Str} {k : TK} {n : Bool} {x y z : Str} (h : okP sc (.ty k n x y z)) : okTst sc ⟨n, x, y, z⟩ := h
def spEnter (K : PySem.W.Frag) : Sp := fun vs H Q E => ∃ (H0 : Hp) (r aw pbl : Addr) (ws : List Str) (i : Nat) (as ft : List Addr) (c d : Nat) (s : MS) (z : Str) (p : Pend), vs = [.ref r, .str z] ∧ MSok s ∧ RsAt K H0 H r aw pbl ws i as s.stk ft c d ∧ s.stk.length ≤ 300000 ∧ s.stk ≠ [] ∧ begins z = some p ∧ ((z = kEach ∧ p = .each0) ∨ ∃ k, z = tkw k ∧ p = .t0 k) ∧ s.pend = some p ∧
  (∀ m, mtot s (ws.drop i) = .bad m → Bad K E H0 (ws.length - m)) ∧
  ∀ (h : Hd) (j : Nat) (as' ft' : List Addr) (H' : Hp), i < j → mtot s (ws.drop i) = mtot (mgo s (.opn h)) (ws.drop j) → MSok (mgo s (.opn h)) → RsAt K H0 H' r aw pbl ws j as' (⟨h, [], none⟩ :: s.stk) ft' c (max d s.stk.length) → Q .non H'
theorem sc_OrderReader_enter_block : FnScope ["self", "word", "thing"] ["self", "word"] (defScope s_OrderReader_enter_block) := ⟨rfl, rfl, rfl, by decide +kernel, rfl, by decide +kernel, by decide +kernel⟩
theorem ok_REnter {f : Addr} {fd : FuncData} (F : Fun K "enter_block" "OrderReader.enter_block" s_OrderReader_enter_block f fd) (T : Txt P K mg) (M_take_word : Mn P w K mg base (L2.CX P w) 8 (cR K) "take_word" ["self", "allowed"] (spTkW K)) (M_take_variable : Mn P w K mg base (L2.CX P w) 8 (cR K) "take_variable" ["self"] (spTkV K))
    (M_take_test : Mn P w K mg base (L2.CX P w) 8 (cR K) "take_test" ["self"] (spTkTest K)) (D_opposite_test : Dn P w K mg base CX0 8 "opposite_test" ["test"] (spOpp K)) (N_OpenBlock : Nn P w K mg base CX0 7 "OpenBlock" (cB K) ["self", "word", "thing"] (spBInit K)) : FnOk P w K mg base (L2.CX P w) 9 f fd ["self", "word"] (spEnter K) := by
  refine F.okX sc_OrderReader_enter_block ?_ (fun cdv A outer s0 H vs Q E hr0 h => ?_)
  · intro vs H Q E h
    obtain ⟨_, _, _, _, _, _, _, _, _, _, _, _, _, ee, _⟩ := h
    subst ee
    rfl
  obtain ⟨H0, r, aw, pbl, ws, i, as, ft, c, d, s, z, p, rfl, hs, R, hsl, hne, hbg, hzp, hp, hb, q⟩ := h
  obtain ⟨dx, ho⟩ := R.o
  have hr1 : Room (7 + 1) (A.deeper (PyProof.Rows.envOfC "OrderReader.enter_block" (defScope s_OrderReader_enter_block) s0.heap.objs.size f cdv)) := hr0
  refine ⟨_, (Evl.pss_cut (ps_if (pt_cmpR op_eq (pv 1) pe_str (nomark _)) (pss_one (ps_set (i := 2) sc_OrderReader_enter_block.nd rfl (Or.inl rfl) (pe_m0 T.clR M_take_variable hr0 (passes_call (takes_of rfl rfl rfl rfl) (fun _ _ _ _ z => z)) (pv 0)))) (pss_one (ps_set (i := 2) sc_OrderReader_enter_block.nd rfl (Or.inl rfl) (pe_m0 T.clR M_take_test hr0 (passes_call (takes_of rfl rfl rfl rfl) (fun _ _ _ _ z => z)) (pv 0))))) (pss_cons (ps_expr (pe_m T.clR M_take_word hr0 (passes_call (takes_of rfl rfl rfl rfl) (fun _ _ _ _ z => z)) (pv 0) (pa_cons (pe_tup (pa_cons pe_str pa_nil)) pa_nil))) (Evl.pss_cut (ps_if (pt_cmpR op_eq (pv 1) pe_str (nomark _)) (pss_cons (ps_set (i := 1) sc_OrderReader_enter_block.nd rfl (Or.inl rfl) pe_str) (pss_one (ps_set (i := 2) sc_OrderReader_enter_block.nd rfl (Or.inl rfl) (pe_d D_opposite_test hr0 pass0 (pa_cons (pv 2) pa_nil))))) pss_nil) (pss_cons (ps_expr (pe_bm PySem.F.plainAttrs_list PySem.F.slot_list_append PySem.F.type_list_append mt_append (pe_fld (pv 0) rfl) (pa_cons (pe_n N_OpenBlock hr1 pass0 (pa_cons (pv 1) (pa_cons (pv 2) pa_nil))) pa_nil))) (pss_one (ps_fld (pv 0) (pe_callB (call_mx rfl) (by rfl) T.zmax (by decide +kernel) (pa_cons (pe_fld (pv 0) rfl) (pa_cons (pe_op op_sub (pe_callB call_lenA (by rfl) T.zlen (by decide +kernel) (pa_cons (pe_fld (pv 0) rfl) pa_nil)) pe_int) pa_nil))) rfl)))))), ?_⟩
  walk_at "cl"
  refine r_cut (fun σ' H' => ∃ (vt : V) (j : Nat), σ' = [some (.ref r), some (.str z), some vt] ∧ i < j ∧ RsAt K H0 H' r aw pbl ws j as s.stk ft c d ∧ ((∃ v, z = kEach ∧ vt = .str v ∧ mtot s (ws.drop i) = mtot (mgo s (.more (.each1 v))) (ws.drop j) ∧ MSok (mgo s (.more (.each1 v)))) ∨ ∃ k t, z = tkw k ∧ Dp K H' vt (dT t) ∧ ¬ t.w = kNot ∧ mtot s (ws.drop i) = mtot { s with pend := some (.ty k t.neg t.w t.x t.y) } (ws.drop j) ∧ MSok { s with pend := some (.ty k t.neg t.w t.x t.y) })) ?_ ?_
  · walk_at "rk"
    obtain ⟨b1, b2⟩ := bad_at hp hb R.l3
    rcases hzp with ⟨rfl, rfl⟩ | ⟨k, rfl, rfl⟩
    · refine r_T (by decide +kernel) ?_
      walk_at "rk"
      refine r_mt ho rfl ?_
      walk_at "rk"
      refine ⟨r, s.stk, rfl, H0, aw, pbl, ws, i, as, ft, c, d, R, b1, fun z ez hz => b2 z ez (show pnext (scp s.stk) .each0 z = none by simp [pnext, hz]), fun v H1 ev hv R1 k1 => ?_⟩
      exact ⟨_, i + 1, rfl, by omega, R1, .inl ⟨v, rfl, rfl, mtot_go hp ev (show pnext (scp s.stk) .each0 v = _ by simp [pnext, hv]), go_ok hs hp (z := v) (show pnext (scp s.stk) .each0 v = _ by simp [pnext, hv])⟩⟩
    · refine r_F (by cases k <;> decide +kernel) ?_
      walk_at "rk"
      refine r_mt ho rfl ?_
      walk_at "rk"
      refine ⟨H0, r, aw, pbl, ws, i, as, ft, c, d, s, k, rfl, hs, R, hsl, hp, hb, fun t v j H1 tn dt hj g1 m1 R1 k1 => ?_⟩
      exact ⟨_, j, rfl, hj, R1, .inr ⟨k, t, rfl, dt, tn, g1, m1⟩⟩
  · rintro σ' H1 ⟨vt, j, rfl, hj, R1, hc⟩
    obtain ⟨dx1, ho1⟩ := R1.o
    -- one word more, do
    obtain ⟨s1, hs1, ms1, p1, hp1, hd, hnx, hg1, hdh, hc⟩ : ∃ (s1 : MS), s1.stk = s.stk ∧ MSok s1 ∧ ∃ p1, s1.pend = some p1 ∧ ∃ hd, (∀ z, pnext (scp s1.stk) p1 z = if z = kDo then some (.opn hd) else none) ∧ mtot s (ws.drop i) = mtot s1 (ws.drop j) ∧ mgo s1 (.opn hd) = mgo s (.opn hd) ∧ ((∃ v, z = kEach ∧ vt = .str v ∧ hd = .each v) ∨ ∃ k t, z = tkw k ∧ Dp K H1 vt (dT t) ∧ ¬ t.w = kNot ∧ hd = mkHd k t) := by
      rcases hc with ⟨v, h1, h2, g, m⟩ | ⟨k, t, h1, h2, h3, g, m⟩
      · exact ⟨mgo s (.more (.each1 v)), rfl, m, .each1 v, rfl, .each v, fun z => rfl, g, rfl, .inl ⟨v, h1, h2, rfl⟩⟩
      · exact ⟨{ s with pend := some (.ty k t.neg t.w t.x t.y) }, rfl, m, .ty k t.neg t.w t.x t.y, rfl, mkHd k t, fun z => rfl, g, rfl, .inr ⟨k, t, h1, h2, h3, rfl⟩⟩
    rw [hg1] at hb
    obtain ⟨b3, b4⟩ := bad_at hp1 hb R1.l3
    walk_at "rk"
    refine r_mt ho1 rfl ?_
    walk_at "rk"
    refine r_newT (by simp) fun p2 H2 n2 k2 e2 => ?_
    have R2 := R1.keep0 k2
    refine ⟨r, p2, s.stk, [kDo], rfl, .inr (SqT.of e2), H0, aw, pbl, ws, j, as, ft, c, d, R2, b3, fun z ez hz => b4 z ez ?_, fun zd H3 ed hz R3 k3 => ?_⟩
    · rw [hnx, if_neg]
      intro h
      rw [h] at hz
      revert hz
      decide +kernel
    have hzd : zd = kDo := by
      have : [kDo].contains zd = true := hz
      rw [List.contains_iff_mem] at this
      exact List.mem_singleton.mp this
    have g3 := mtot_go hp1 ed (show pnext (scp s1.stk) p1 zd = some (.opn hd) by rw [hnx, if_pos hzd])
    have m3 := go_ok ms1 hp1 (z := zd) (show pnext (scp s1.stk) p1 zd = some (.opn hd) by rw [hnx, if_pos hzd])
    rw [hdh] at g3 m3
    have G := hg1.trans g3
    have K13 : Kp [r] H1 H3 := k2.all.trans k3
    walk_at "rk"
    refine r_cut (fun σ' H' => ∃ (z' : Str) (vt' : V), σ' = [some (.ref r), some (.str z'), some vt'] ∧ BHd K H' hd z' vt' ∧ Kp [] H3 H') ?_ ?_
    · walk_at "rk"
      rcases hc with ⟨v, rfl, rfl, rfl⟩ | ⟨k, t, rfl, dt, tn, rfl⟩
      · refine r_F (by decide +kernel) ?_
        walk_at "rk"
        exact ⟨_, _, rfl, .each, .refl⟩
      · have dt3 := dp_keep K13 _ _ (flat_T t) dt
        cases k with
        | ife =>
          refine r_F (by decide +kernel) ?_
          walk_at "rk"
          exact ⟨_, _, rfl, .ife dt3, .refl⟩
        | whl =>
          refine r_F (by decide +kernel) ?_
          walk_at "rk"
          exact ⟨_, _, rfl, .whl dt3, .refl⟩
        | unt =>
          refine r_T (by decide +kernel) ?_
          walk_at "rk"
          refine ⟨vt, t, rfl, dt3, tn, fun u H4 du k4 => ?_⟩
          exact ⟨kWhile, u, rfl, .whl du, k4⟩
    · rintro σ' H4 ⟨z', vt', rfl, hB, k4⟩
      have R4 := R3.keep0 k4
      obtain ⟨dx4, ho4⟩ := R4.o
      obtain ⟨l1, l2, l3, l4, l5⟩ := lk_rfs aw ((j + 1 : Nat) : Int) pbl (c : Int) (d : Int)
      have hlen := R4.st.len
      walk_at "rk"
      refine r_get ho4 T.clR T.rB l3 ?_
      refine r_tyL (SqL.of R4.b) ?_
      walk_at "rk"
      intro x dxb nx nd nxd
      have k5 : Kp [] H4 (upd (upd H4 dxb (.own x)) x (.ins (cB K) dxb [])) := (Kp.new nd).trans (Kp.new (by rw [upd_ne (Ne.symm nxd)]; exact nx))
      refine ⟨x, dxb, z', vt', rfl, upd_same, fun pc po H6 npc npo hpo k6 e6 ec eo => ⟨rfl, ?_⟩⟩
      have R4n := R4.ne
      have dx_ : ∀ y ∈ r :: aw :: pbl :: ft, y ≠ x := fun y hy e => R4n y hy (e ▸ nx)
      have R5n := (R4.keep0 k5).ne
      have dc : ∀ y ∈ r :: aw :: pbl :: ft, y ≠ pc := fun y hy e => R5n y hy (e ▸ npc)
      have dp : ∀ y ∈ r :: aw :: pbl :: ft, y ≠ po := fun y hy e => R5n y hy (e ▸ npo)
      have xc : x ≠ pc := fun e => by
        rw [← e, upd_same] at npc
        cases npc
      have xo : x ≠ po := fun e => by
        rw [← e, upd_same] at npo
        cases npo
      have k46 : Kp [] H4 H6 := k5.young k6 fun b hb => by rw [List.mem_singleton.mp hb]; exact nx
      have R6 := R4.keep0 k46
      have hB6 := hB.keep k46
      walk_at "rk"
      refine r_appK R6.b (by rw [List.length_map, List.length_reverse, hlen]; omega) fun H7 k7 e7 => ?_
      obtain ⟨⟨s1, s2, s3⟩, ⟨s4, s5⟩, s6, s7⟩ := R4.sep
      have g7 : ∀ {y : Addr} {o : HO}, H6 y = some o → y ≠ pbl → H7 y = some o := fun h hn => k7.get h (by simpa using hn)
      have ho6 := k46.get ho4 (by simp)
      have R7 : RsAt K H0 H7 r aw pbl ws (j + 1) (x :: as) (⟨hd, [], none⟩ :: s.stk) ([x, pc, po] ++ ft) c d := by
        refine ⟨⟨dx4, g7 ho6 s2⟩, g7 R6.w s4, by rw [e7, rev_consB], ⟨_, _, rfl, ⟨z', vt', pc, po, dxb, false, [], [], g7 e6 (Ne.symm (dx_ pbl (by simp))), hB6.keep k7, g7 ec (Ne.symm (dc pbl (by simp))), g7 eo (Ne.symm (dp pbl (by simp))), rfl, .inl ⟨rfl, rfl, .nil, rfl⟩⟩, R6.st.keep k7 fun y hy hm => s6 (List.mem_singleton.mp hm ▸ hy)⟩, ?_, ?_, R6.kpy (x := pbl) (by simp) k7, R4.l1, R4.l2, R4.l3⟩
        · have nd' := R4.nd
          simp only [List.cons_append, List.nil_append, List.nodup_cons, List.mem_cons, not_or] at nd' ⊢
          obtain ⟨⟨t1, t2, t3⟩, ⟨t4, t5⟩, t6, t7⟩ := nd'
          exact ⟨⟨t1, t2, dx_ r (by simp), dc r (by simp), dp r (by simp), t3⟩, ⟨t4, dx_ aw (by simp), dc aw (by simp), dp aw (by simp), t5⟩, ⟨dx_ pbl (by simp), dc pbl (by simp), dp pbl (by simp), t6⟩, ⟨xc, xo, fun hm => dx_ x (by simp [hm]) rfl⟩, ⟨hpo, fun hm => dc pc (by simp [hm]) rfl⟩, fun hm => dp po (by simp [hm]) rfl, t7⟩
        · intro y hy
          simp only [List.cons_append, List.nil_append, List.mem_cons] at hy
          rcases hy with rfl | rfl | rfl | rfl | rfl | rfl | hy
          · exact R4.fr _ (by simp)
          · exact R4.fr _ (by simp)
          · exact R4.fr _ (by simp)
          · exact R4.kp.free0 nx
          · exact (R4.kp.trans k5).free0 npc
          · exact (R4.kp.trans k5).free0 npo
          · exact R4.fr _ (by simp [hy])
      have ho7 := g7 ho6 s2
      walk_at "rk"
      refine r_get ho7 T.clR T.rD l5 ?_
      walk_at "rk"
      refine r_get ho7 T.clR T.rB l3 ?_
      walk_at "rk"
      refine r_lenL (SqL.of R7.b) ?_
      walk_at "rk"
      refine r_laid ho7 T.clR T.rD (by simp [rfs]) fun H8 k8 e8 => ?_
      rw [(put_rfs _ _ 0 _ _ _ _).2.2] at e8
      have em : max (d : Int) (((List.map V.ref (x :: as).reverse).length : Nat) - 1 : Int) = ((max d s.stk.length : Nat) : Int) := by
        rw [List.length_map, List.length_reverse, List.length_cons, hlen]
        omega
      rw [em] at e8
      have R8 := R7.setO (j := j + 1) (c' := c) (d' := max d s.stk.length) k8 e8 R4.l3
      walk_at "rk"
      exact q hd (j + 1) _ _ H8 (by omega) G m3 R8
end
end Hj
end
section
set_option Elab.async false
set_option linter.all false
set_option maxRecDepth 100000
set_option maxHeartbeats 16000000
local macro_rules | `(tactic| walk_at "rd") => `(tactic| repeat (first
  | with_reducible refine Hj.r_seq ?_
  | with_reducible refine Hj.r_nx ?_
  | with_reducible refine Hj.r_rt ?_
  | with_reducible refine L2.iteT ?_
  | with_reducible refine L2.iteF ?_
  | with_reducible refine Hj.r_set ?_
  | with_reducible refine Hj.r_gname ?_
  | with_reducible refine Hj.r_if ?_
  | with_reducible refine Hj.r_ret ?_
  | ((with_reducible show L2.tVar _ _ _ _); refine Hj.r_var rfl ?_)
  | with_reducible refine Hj.r_c ?_
  | with_reducible refine Hj.r_cons ?_
  | with_reducible refine Hj.r_nil ?_
  | with_reducible refine Hj.r_op ?_
  | with_reducible refine Hj.r_test ?_
  | with_reducible refine Hj.r_B ?_
  | with_reducible refine Hj.r_cb ?_
  | with_reducible refine Hj.r_blV ?_
  | with_reducible refine Hj.r_and ?_
  | with_reducible refine Hj.r_or ?_
  | with_reducible refine Hj.r_not ?_
  | with_reducible refine Hj.r_call ?_
  | with_reducible refine Hj.r_tup ?_
  | with_reducible refine Hj.r_lst ?_
  | with_reducible refine Hj.r_eqS ?_
  | with_reducible refine Hj.r_eqI ?_
  | with_reducible refine Hj.r_neS ?_
  | with_reducible refine Hj.r_neI ?_
  | with_reducible refine Hj.r_isN ?_
  | with_reducible refine Hj.r_I0 ?_
  | with_reducible refine Hj.r_addI ?_
  | with_reducible refine Hj.r_intOf ?_
  | with_reducible refine Hj.r_mx ?_
  | with_reducible refine Hj.r_un ?_
  | with_reducible refine Hj.r_neg ?_
  | with_reducible refine Hj.r_drop ?_
  | with_reducible refine Hj.r_next ?_
  | with_reducible refine Hj.r_retN ?_
  | with_reducible refine Hj.r_sub ?_
  | with_reducible refine Hj.r_asg ?_
  | with_reducible refine Hj.r_bm ?_
  | with_reducible refine Hj.r_bm0 ?_
  | with_reducible refine Hj.r_meth ?_
  | with_reducible refine Hj.r_make ?_
  | with_reducible refine Hj.r_fldK ?_
  | with_reducible refine Hj.r_setK ?_
  | with_reducible refine Hj.r_sl ?_
  | with_reducible refine Hj.r_no ?_
  | with_reducible refine Hj.r_mkB ?_
  | with_reducible refine Hj.r_chain ?_
  | with_reducible refine Hj.r_leS ?_
  | with_reducible refine Hj.r_mkM ?_
  | with_reducible refine Hj.r_part ?_
  | with_reducible refine Hj.r_partI ?_
  | with_reducible refine Hj.r_m1 ?_
  | with_reducible refine Hj.r_strs ?_
  | with_reducible refine Hj.r_andV ?_
  | with_reducible refine Hj.r_orV ?_
  | with_reducible refine Hj.r_notV ?_
  | with_reducible refine Hj.r_for ?_
  | with_reducible refine Hj.r_rng ?_
  | with_reducible refine Hj.r_itL ?_
  | with_reducible refine Hj.r_itT ?_
  | with_reducible refine Hj.r_itS ?_
  | with_reducible refine Hj.r_itSE ?_))
local macro_rules | `(tactic| walk_at "rk") => `(tactic| repeat (first
  | with_reducible refine Hj.r_seq ?_
  | with_reducible refine Hj.r_nx ?_
  | with_reducible refine Hj.r_rt ?_
  | with_reducible refine L2.iteT ?_
  | with_reducible refine L2.iteF ?_
  | with_reducible refine Hj.r_set ?_
  | with_reducible refine Hj.r_gname ?_
  | with_reducible refine Hj.r_if ?_
  | with_reducible refine Hj.r_ret ?_
  | ((with_reducible show L2.tVar _ _ _ _); refine Hj.r_var rfl ?_)
  | with_reducible refine Hj.r_c ?_
  | with_reducible refine Hj.r_cons ?_
  | with_reducible refine Hj.r_nil ?_
  | with_reducible refine Hj.r_op ?_
  | with_reducible refine Hj.r_test ?_
  | with_reducible refine Hj.r_B ?_
  | with_reducible refine Hj.r_cb ?_
  | with_reducible refine Hj.r_blV ?_
  | with_reducible refine Hj.r_and ?_
  | with_reducible refine Hj.r_or ?_
  | with_reducible refine Hj.r_not ?_
  | with_reducible refine Hj.r_call ?_
  | with_reducible refine Hj.r_tupK ?_
  | with_reducible refine Hj.r_lstK ?_
  | with_reducible refine Hj.r_eqS ?_
  | with_reducible refine Hj.r_eqI ?_
  | with_reducible refine Hj.r_neS ?_
  | with_reducible refine Hj.r_neI ?_
  | with_reducible refine Hj.r_isN ?_
  | with_reducible refine Hj.r_I0 ?_
  | with_reducible refine Hj.r_addI ?_
  | with_reducible refine Hj.r_intOf ?_
  | with_reducible refine Hj.r_mx ?_
  | with_reducible refine Hj.r_un ?_
  | with_reducible refine Hj.r_neg ?_
  | with_reducible refine Hj.r_drop ?_
  | with_reducible refine Hj.r_next ?_
  | with_reducible refine Hj.r_retN ?_
  | with_reducible refine Hj.r_sub ?_
  | with_reducible refine Hj.r_asg ?_
  | with_reducible refine Hj.r_bm ?_
  | with_reducible refine Hj.r_bm0 ?_
  | with_reducible refine Hj.r_meth ?_
  | with_reducible refine Hj.r_make ?_
  | with_reducible refine Hj.r_fldK ?_
  | with_reducible refine Hj.r_setK ?_
  | with_reducible refine Hj.r_sl ?_
  | with_reducible refine Hj.r_no ?_
  | with_reducible refine Hj.r_mkB ?_
  | with_reducible refine Hj.r_chain ?_
  | with_reducible refine Hj.r_leS ?_
  | with_reducible refine Hj.r_mkM ?_
  | with_reducible refine Hj.r_part ?_
  | with_reducible refine Hj.r_partI ?_
  | with_reducible refine Hj.r_m1 ?_
  | with_reducible refine Hj.r_strs ?_
  | with_reducible refine Hj.r_andV ?_
  | with_reducible refine Hj.r_orV ?_
  | with_reducible refine Hj.r_notV ?_
  | with_reducible refine Hj.r_for ?_
  | with_reducible refine Hj.r_rng ?_
  | with_reducible refine Hj.r_itL ?_
  | with_reducible refine Hj.r_itT ?_
  | with_reducible refine Hj.r_itS ?_
  | with_reducible refine Hj.r_itSE ?_))
local macro_rules | `(tactic| walk_at "cl") => `(tactic| ((try dsimp only [L2.cxOf, L2.Cx.nox]); simp only [L2.start, List.map, List.length, List.replicate, List.cons_append, List.nil_append, Nat.reduceAdd, Nat.reduceSub]))
local macro_rules | `(tactic| walk_at "len") => `(tactic| (intro vs H Q E h; first
  | (obtain ⟨_, ee, _⟩ := h; subst ee; rfl) | (obtain ⟨_, _, ee, _⟩ := h; subst ee; rfl) | (obtain ⟨_, _, _, ee, _⟩ := h; subst ee; rfl) | (obtain ⟨_, _, _, _, ee, _⟩ := h; subst ee; rfl) | (obtain ⟨_, _, _, _, _, ee, _⟩ := h; subst ee; rfl) | (obtain ⟨_, _, _, _, _, _, ee, _⟩ := h; subst ee; rfl)
  | (obtain ⟨_, _, _, _, _, _, _, ee, _⟩ := h; subst ee; rfl) | (obtain ⟨_, _, _, _, _, _, _, _, ee, _⟩ := h; subst ee; rfl) | (obtain ⟨_, _, _, _, _, _, _, _, _, ee, _⟩ := h; subst ee; rfl) | (obtain ⟨_, _, _, _, _, _, _, _, _, _, ee, _⟩ := h; subst ee; rfl)))
namespace Hj
open PySem PySem.Spec L2
/-! ### the words that may stand -/
theorem alw_begins {stk : List Fr} {z : Str} {p : Pend} (h : begins z = some p) : (alw stk).contains z = true := by
  rw [List.contains_iff_mem]
  unfold alw
  rw [List.mem_append]
  left
  have := begins_in z
  rw [h, Option.isSome_some] at this
  have h2 := this.symm
  rw [List.contains_iff_mem] at h2
  simp only [List.mem_cons, List.not_mem_nil, or_false] at h2 ⊢
  rcases h2 with h | h | h | h | h | h <;> simp [h]
theorem alw_none {stk : List Fr} {z : Str} (h : begins z = none) (hz : (alw stk).contains z = true) : (z = kEnd ∧ ∃ f g r, stk = f :: g :: r) ∨ (z = kElse ∧ ∃ t cur r, stk = ⟨.ife t, cur, none⟩ :: r) := by
  rw [List.contains_iff_mem] at hz
  unfold alw at hz
  have hn : z ∉ [kJoin, kClear, kIf, kWhile, kUntil, kEach] := fun hm => by
    have := begins_in z
    rw [h, Option.isSome_none] at this
    have h2 : [kJoin, kClear, kEach, kIf, kWhile, kUntil].contains z = true := by
      rw [List.contains_iff_mem]
      simp only [List.mem_cons, List.not_mem_nil, or_false] at hm ⊢
      rcases hm with h | h | h | h | h | h <;> simp [h]
    rw [h2] at this
    cases this
  rcases List.mem_append.mp hz with hm | hm
  · exact absurd hm hn
  rcases List.mem_append.mp hm with hm | hm
  · split at hm
    · next hl =>
      refine .inl ⟨List.mem_singleton.mp hm, ?_⟩
      cases stk with
      | nil => simp at hl
      | cons f r =>
        cases r with
        | nil => simp at hl
        | cons g r => exact ⟨f, g, r, rfl⟩
    · cases hm
  · cases stk with
    | nil => cases hm
    | cons f r =>
      simp only at hm
      split at hm
      · next ht =>
        refine .inr ⟨List.mem_singleton.mp hm, ?_⟩
        obtain ⟨hd, cur, oth⟩ := f
        cases hd <;> cases oth <;> simp [tkE] at ht
        exact ⟨_, cur, r, rfl⟩
      · cases hm
theorem alw_not {ms : MS} (hp : ms.pend = none) {z : Str} (hz : (alw ms.stk).contains z = false) : mstep ms z = none := by
  have e : mstep ms z = mfree ms z := by
    unfold mstep
    rw [hp]
  rw [e]
  unfold mfree
  cases hb : begins z with
  | some p =>
    rw [alw_begins hb] at hz
    cases hz
  | none =>
    simp only
    split
    · next h1 =>
      cases hm : mElse ms.stk with
      | none => rfl
      | some k =>
        exfalso
        have : (alw ms.stk).contains z = true := by
          rw [List.contains_iff_mem]
          unfold alw
          rw [List.mem_append, List.mem_append]
          right; right
          cases hs : ms.stk with
          | nil => rw [hs] at hm; cases hm
          | cons f r =>
            rw [hs] at hm
            obtain ⟨hd, cur, oth⟩ := f
            cases hd <;> cases oth <;> simp [mElse] at hm
            simp [tkE, h1]
        rw [this] at hz
        cases hz
    · split
      · next h2 =>
        cases hm : mEnd ms.stk with
        | none => rfl
        | some k =>
          exfalso
          have : (alw ms.stk).contains z = true := by
            rw [List.contains_iff_mem]
            unfold alw
            rw [List.mem_append, List.mem_append]
            right; left
            cases hs : ms.stk with
            | nil => rw [hs] at hm; cases hm
            | cons f r =>
              cases r with
              | nil => rw [hs] at hm; cases hm
              | cons g r => simp [h2]
          rw [this] at hz
          cases hz
      · rfl
section
variable {P : Program} {w : World} {K : PySem.W.Frag} {mg : Str → Option Value} {base : Heap}
/-- the youngest block is written -/
theorem RsAt.top2 {H0 H H1 H2 : Hp} {r aw pbl : Addr} {ws : List Str} {i : Nat} {a : Addr} {as : List Addr} {f f' : Fr} {fs : List Fr} {f1 f2 : List Addr} {c d : Nat} {pc : Addr} (R : RsAt K H0 H r aw pbl ws i (a :: as) (f :: fs) (f1 ++ f2) c d) (h2 : StkB K H as fs f2) (k : Kp [] H H1) (hpc : pc ∈ f1) (kp : Kp [pc] H1 H2) (B : BlkAt K H2 a f' f1) :
    RsAt K H0 H2 r aw pbl ws i (a :: as) (f' :: fs) (f1 ++ f2) c d := by
  have R1 := R.keep0 k
  obtain ⟨⟨s1, s2, s3⟩, ⟨s4, s5⟩, s6, s7⟩ := R.sep
  obtain ⟨n1, n2, n3⟩ := List.nodup_append.mp s7
  obtain ⟨dx, ho⟩ := R1.o
  have hm : pc ∈ f1 ++ f2 := List.mem_append_left _ hpc
  refine ⟨⟨dx, kp.get ho (fun h => s3 (List.mem_singleton.mp h ▸ hm))⟩, kp.get R1.w (fun h => s5 (List.mem_singleton.mp h ▸ hm)), kp.get R1.b (fun h => s6 (List.mem_singleton.mp h ▸ hm)), ⟨f1, f2, rfl, B, (h2.keep k (by simp)).keep kp fun x hx h => ?_⟩, R.nd, R.fr, R1.kpy (List.mem_cons_of_mem _ (List.mem_cons_of_mem _ (List.mem_cons_of_mem _ hm))) kp, R.l1, R.l2, R.l3⟩
  have : x = pc := List.mem_singleton.mp h
  subst this
  exact n3 x hpc x hx rfl
def spStep (K : PySem.W.Frag) : Sp := fun vs H Q E => ∃ (H0 : Hp) (r aw pbl : Addr) (ws : List Str) (i : Nat) (as ft : List Addr) (ms : MS), vs = [.ref r] ∧ RsAt K H0 H r aw pbl ws i as ms.stk ft ms.many ms.deep ∧ MSok ms ∧ ms.pend = none ∧ ms.many ≤ i ∧ (1 < ms.stk.length ∨ i < ws.length) ∧ (∀ m, mtot ms (ws.drop i) = .bad m → Bad K E H0 (ws.length - m)) ∧
  ∀ (ms' : MS) (j : Nat) (as' ft' : List Addr) (H' : Hp), i < j → MSok ms' → ms'.pend = none → ms'.many ≤ j → mtot ms (ws.drop i) = mtot ms' (ws.drop j) → RsAt K H0 H' r aw pbl ws j as' ms'.stk ft' ms'.many ms'.deep → Q .non H'
theorem sc_OrderReader_read_step : FnScope ["self", "word", "block", "x", "y"] ["self"] (defScope s_OrderReader_read_step) := ⟨rfl, rfl, rfl, by decide +kernel, rfl, by decide +kernel, by decide +kernel⟩
theorem ok_RStep {f : Addr} {fd : FuncData} (F : Fun K "read_step" "OrderReader.read_step" s_OrderReader_read_step f fd) (T : Txt P K mg) (M_take_word : Mn P w K mg base (L2.CX P w) 9 (cR K) "take_word" ["self", "allowed"] (spTkW K)) (M_allowed_words : Mn P w K mg base CX0 9 (cR K) "allowed_words" ["self"] (spAlw K)) (M_leave_block : Mn P w K mg base CX0 9 (cR K) "leave_block" ["self"] (spLeave K))
    (M_take_term : Mn P w K mg base (L2.CX P w) 9 (cR K) "take_term" ["self"] (spTkT K)) (M_add_statement : Mn P w K mg base CX0 9 (cB K) "add_statement" ["self", "statement"] (spBAdd K)) (M_enter_block : Mn P w K mg base (L2.CX P w) 9 (cR K) "enter_block" ["self", "word"] (spEnter K)) : FnOk P w K mg base (L2.CX P w) 10 f fd ["self"] (spStep K) := by
  refine F.okX sc_OrderReader_read_step ?_ (fun cdv A outer s0 H vs Q E hr0 h => ?_)
  · walk_at "len"
  obtain ⟨H0, r, aw, pbl, ws, i, as, ft, ms, rfl, R, mo, hp, mn, hgo, hb, q⟩ := h
  obtain ⟨dx, ho⟩ := R.o
  have bnd1 : ms.stk.length ≤ 200001 := by
    have h1 := stk_len mo.ok
    have h2 := mo.many
    have h3 := R.l1
    have h4 := R.l3
    omega
  refine ⟨_, (pss_cons (ps_set (i := 1) sc_OrderReader_read_step.nd rfl (Or.inl rfl) (pe_m T.clR M_take_word hr0 (passes_call (takes_of rfl rfl rfl rfl) (fun _ _ _ _ z => z)) (pv 0) (pa_cons (pe_m0 T.clR M_allowed_words hr0 pass0 (pv 0)) pa_nil))) (pss_cons (ps_set (i := 2) sc_OrderReader_read_step.nd rfl (Or.inl rfl) (pe_ix ix_seq (pe_fld (pv 0) rfl) (pe_un un_neg pe_int) (fun _ _ => rfl))) (pss_cons (ps_if (pt_cmpR op_eq (pv 1) pe_str (nomark _)) (pss_cons (ps_expr (pe_m0 T.clR M_leave_block hr0 pass0 (pv 0))) (pss_one ps_retN)) pss_nil) (pss_cons (ps_if (pt_cmpR op_eq (pv 1) pe_str (nomark _)) (pss_cons (ps_fld (pv 2) pe_bl rfl) (pss_one ps_retN)) pss_nil) (pss_cons (ps_fldaug (pv 0) pe_int in_add) (pss_one (ps_if (pt_cmpR op_eq (pv 1) pe_str (nomark _)) (pss_cons (ps_set (i := 3) sc_OrderReader_read_step.nd rfl (Or.inl rfl) (pe_m0 T.clR M_take_term hr0 (passes_call (takes_of rfl rfl rfl rfl) (fun _ _ _ _ z => z)) (pv 0))) (pss_cons (ps_set (i := 4) sc_OrderReader_read_step.nd rfl (Or.inl rfl) (pe_m0 T.clR M_take_term hr0 (passes_call (takes_of rfl rfl rfl rfl) (fun _ _ _ _ z => z)) (pv 0))) (pss_one (ps_expr (pe_m T.clB M_add_statement hr0 pass0 (pv 2) (pa_cons (pe_tup (pa_cons pe_str (pa_cons (pv 3) (pa_cons (pv 4) pa_nil)))) pa_nil)))))) (pss_one (ps_if (pt_cmpR op_eq (pv 1) pe_str (nomark _)) (pss_one (ps_expr (pe_m T.clB M_add_statement hr0 pass0 (pv 2) (pa_cons (pe_tup (pa_cons pe_str (pa_cons (pe_m0 T.clR M_take_term hr0 (passes_call (takes_of rfl rfl rfl rfl) (fun _ _ _ _ z => z)) (pv 0)) pa_nil))) pa_nil)))) (pss_one (ps_expr (pe_m T.clR M_enter_block hr0 (passes_call (takes_of rfl rfl rfl rfl) (fun _ _ _ _ z => z)) (pv 0) (pa_cons (pv 1) pa_nil))))))))))))), ?_⟩
  walk_at "cl"
  walk_at "rk"
  refine r_mt ho rfl ?_
  walk_at "rk"
  refine r_mt ho rfl ?_
  walk_at "rk"
  refine ⟨H0, r, aw, pbl, ws, i, as, ms.stk, ft, ms.many, ms.deep, rfl, R, mo.ne, fun pa H1 na ea k1 => ?_⟩
  have R1 := R.keep0 k1
  walk_at "rk"
  refine ⟨r, pa, ms.stk, alw ms.stk, rfl, .inl (SqL.of ea), H0, aw, pbl, ws, i, as, ft, ms.many, ms.deep, R1, fun hn => ?_, fun z ez hz => ?_, fun z H2 ez hz R2 k2 => ?_⟩
  · have hl := List.getElem?_eq_none_iff.mp hn
    refine hb 0 ?_
    rw [drop_none hn]
    simp only [mtot, mend]
    rw [if_pos (.inr (by omega))]
  · have hl := (List.getElem?_eq_some_iff.mp ez).1
    have e : mtot ms (ws.drop i) = .bad (ws.length - i) := by
      rw [drop_cons ez]
      simp only [mtot, alw_not hp hz, List.length_drop]
      congr 1
      omega
    have := hb _ e
    rw [show ws.length - (ws.length - i) = i by omega] at this
    exact this
  have hi : i < ws.length := (List.getElem?_eq_some_iff.mp ez).1
  have msN : mstep ms z = mfree ms z := by
    unfold mstep
    rw [hp]
  have hz' : (alw ms.stk).contains z = true := hz
  obtain ⟨f1, rst, es⟩ : ∃ f r, ms.stk = f :: r := by
    cases h : ms.stk with
    | nil => exact absurd h mo.ne
    | cons f r => exact ⟨f, r, rfl⟩
  have cl : ∀ f ∈ ms.stk, f.cur.length < 1000000 := fun f hf => by
    have h1 := stk_cur hf
    have h2 := mo.many
    have h3 := R.l1
    omega
  have R2s := R2
  rw [es] at R2s
  obtain ⟨a1, as', fo1, fo2, eas, eft, hfa, hsr⟩ := R2s.st.top
  subst eas eft
  obtain ⟨dx2, ho2⟩ := R2.o
  obtain ⟨l1, l2, l3, l4, l5⟩ := lk_rfs aw ((i + 1 : Nat) : Int) pbl (ms.many : Int) (ms.deep : Int)
  have Rb := R2.b
  rw [rev_consB] at Rb
  walk_at "rk"
  refine r_get ho2 T.clR T.rB l3 ?_
  walk_at "rk"
  refine r_ixL (SqL.of Rb) (atI_last _ _) ?_
  walk_at "rk"
  cases hbz : begins z with
  | none =>
    rcases alw_none hbz hz' with ⟨rfl, f, g, r', es2⟩ | ⟨rfl, t, cur, r', es2⟩
    · refine r_T (by decide +kernel) ?_
      walk_at "rk"
      refine r_mt ho2 rfl ?_
      walk_at "rk"
      have hmf : mfree ms kEnd = some { ms with stk := addS (clo f) (g :: r') } := by
        simp only [mfree, b_end, if_neg end_else, if_true, es2, mEnd, Option.map_some]
      have mt2 : mtot ms (ws.drop i) = mtot { ms with stk := addS (clo f) (g :: r') } (ws.drop (i + 1)) := by
        rw [drop_cons ez]
        simp only [mtot, msN, hmf]
      have mo2 : MSok { ms with stk := addS (clo f) (g :: r') } := mstep_ok mo (by rw [msN, hmf])
      have okf : (f.oth ≠ none → isIf f.hd) ∧ f.hd ≠ .root := by
        have := mo.ok
        rw [es2] at this
        obtain ⟨⟨_, _, h3, h4, h5⟩, _⟩ := this
        refine ⟨h4, fun e => ?_⟩
        rw [e] at h5
        exact absurd (h5.mp trivial) (by simp)
      rw [es2] at R2
      refine ⟨H0, r, aw, pbl, ws, i + 1, _, f, g, r', _, ms.many, ms.deep, rfl, R2, okf.2, okf.1, cl g (by rw [es2]; simp), fun as3 ft3 H3 R3 => ?_⟩
      walk_at "rk"
      exact q { ms with stk := addS (clo f) (g :: r') } (i + 1) as3 ft3 H3 (by omega) mo2 hp (by show ms.many ≤ _; omega) mt2 R3
    · refine r_F (by decide +kernel) ?_
      walk_at "rk"
      refine r_T (by decide +kernel) ?_
      walk_at "rk"
      rw [es2] at es
      obtain ⟨rfl, rfl⟩ := List.cons.inj es
      have hmf : mfree ms kElse = some { ms with stk := ⟨.ife t, [], some cur⟩ :: r' } := by
        simp only [mfree, b_else, if_true, es2, mElse, Option.map_some]
      have mt2 : mtot ms (ws.drop i) = mtot { ms with stk := ⟨.ife t, [], some cur⟩ :: r' } (ws.drop (i + 1)) := by
        rw [drop_cons ez]
        simp only [mtot, msN, hmf]
      have mo2 : MSok { ms with stk := ⟨.ife t, [], some cur⟩ :: r' } := mstep_ok mo (by rw [msN, hmf])
      obtain ⟨kk, vt, pc, po, dxb, tb, cs, os, h1, h2, h3, h4, rfl, h6⟩ := hfa.ex
      refine r_laid h1 T.clB T.bU (by simp [bfs]) fun H3 k3 e3 => ?_
      rw [put_bfs] at e3
      walk_at "rk"
      obtain ⟨⟨s1, s2, s3⟩, ⟨s4, s5⟩, s6, s7⟩ := R2s.sep
      have nd := (List.nodup_append.mp s7).1
      simp only [List.nodup_cons, List.mem_cons, List.not_mem_nil, or_false, not_or] at nd
      have B3 : BlkAt K H3 a1 ⟨.ife t, [], some cur⟩ [a1, pc, po] := by
        refine ⟨kk, vt, pc, po, dxb, true, cs, os, e3, h2.keep k3, k3.get h3 (by simpa using Ne.symm nd.1.1), k3.get h4 (by simpa using Ne.symm nd.1.2), rfl, .inr ⟨cur, rfl, rfl, ?_, ?_⟩⟩
        · rcases h6 with ⟨_, _, a3, _⟩ | ⟨b, hbb, _⟩
          · exact dps_keep k3 _ _ (flat_L _) a3
          · cases hbb
        · rcases h6 with ⟨_, _, _, rfl⟩ | ⟨b, hbb, _⟩
          · exact .nil
          · cases hbb
      exact q { ms with stk := ⟨.ife t, [], some cur⟩ :: r' } (i + 1) _ _ H3 (by omega) mo2 hp (by show ms.many ≤ _; omega) mt2 (R2s.top2 hsr .refl (pc := a1) (by simp) k3 B3)
  | some p =>
    have hmf : mfree ms z = some { ms with pend := some p, many := ms.many + 1 } := by
      unfold mfree
      rw [hbz]
    have mt1 : mtot ms (ws.drop i) = mtot { ms with pend := some p, many := ms.many + 1 } (ws.drop (i + 1)) := by
      rw [drop_cons ez]
      simp only [mtot, msN, hmf]
    have mo1 : MSok { ms with pend := some p, many := ms.many + 1 } := mstep_ok mo (by rw [msN, hmf])
    refine r_F (decide_eq_false fun h => ?_) ?_
    · rw [show z = kEnd from h, b_end] at hbz
      cases hbz
    walk_at "rk"
    refine r_F (decide_eq_false fun h => ?_) ?_
    · rw [show z = kElse from h, b_else] at hbz
      cases hbz
    walk_at "rk"
    refine r_aug rfl ho2 T.clR T.rC l4 (by simp [rfs]) fun H3 k3 e3 => ?_
    rw [(put_rfs _ _ 0 _ _ _ _).2.1] at e3
    have R3 := R2.setO (j := i + 1) (c' := ms.many + 1) (d' := ms.deep) (dx := dx2) k3 (by rw [e3, Int.natCast_add]; rfl) R2.l3
    rw [mt1] at hb q
    obtain ⟨b1, b2⟩ := bad_at (s := { ms with pend := some p, many := ms.many + 1 }) rfl hb R2.l3
    walk_at "rk"
    rcases begins_inv hbz with ⟨rfl, rfl⟩ | ⟨rfl, rfl⟩ | hx
    · refine r_T (by decide +kernel) ?_
      walk_at "rk"
      obtain ⟨dx3, ho3⟩ := R3.o
      refine r_mt ho3 rfl ?_
      walk_at "rk"
      refine ⟨r, ms.stk, rfl, by omega, H0, aw, pbl, ws, i + 1, _, _, ms.many + 1, ms.deep, R3, b1, fun y ey hy => b2 y ey (show pnext (scp ms.stk) .join0 y = none by simp [pnext, hy]), fun x H4 ex hx R4 k4 => ?_⟩
      have h4 : pnext (scp ms.stk) .join0 x = some (.more (.join1 x)) := by simp [pnext, hx]
      have g4 := mtot_go (s := { ms with pend := some .join0, many := ms.many + 1 }) rfl ex h4
      have m4 := go_ok (s := { ms with pend := some .join0, many := ms.many + 1 }) mo1 rfl h4
      rw [g4] at hb
      obtain ⟨b3, b4⟩ := bad_at (s := mgo { ms with pend := some .join0, many := ms.many + 1 } (.more (.join1 x))) (p := .join1 x) rfl hb R4.l3
      obtain ⟨dx4, ho4⟩ := R4.o
      walk_at "rk"
      refine r_mt ho4 rfl ?_
      walk_at "rk"
      refine ⟨r, ms.stk, rfl, by omega, H0, aw, pbl, ws, i + 1 + 1, _, _, ms.many + 1, ms.deep, R4, b3, fun y ey hy => b4 y ey (show pnext (scp ms.stk) (.join1 x) y = none by simp [pnext, hy]), fun y H5 ey hy R5 k5 => ?_⟩
      have h5 : pnext (scp ms.stk) (.join1 x) y = some (.stm (.join x y)) := by simp [pnext, hy]
      have g5 := mtot_go (s := mgo { ms with pend := some .join0, many := ms.many + 1 } (.more (.join1 x))) rfl ey h5
      have m5 := go_ok (s := mgo { ms with pend := some .join0, many := ms.many + 1 } (.more (.join1 x))) m4 rfl h5
      have R5s := R5
      rw [es] at R5s
      obtain ⟨a1', as3, fo3, fo4, eas, eft, hfa5, hsr5⟩ := R5s.st.top
      obtain ⟨rfl, rfl⟩ := List.cons.inj eas
      rw [eft] at R5s
      walk_at "rk"
      obtain ⟨kk, vt, pc, po, dxb, tb, cs, os, j1, j2, j3, j4, rfl, j6⟩ := hfa5.ex
      refine r_mt j1 rfl ?_
      walk_at "rk"
      refine r_newT (by simp) fun p6 H6 n6 k6 e6 => ?_
      refine ⟨_, f1, [a1, pc, po], .ref p6, .join x y, rfl, hfa5.keep k6 (by simp), ?_, cl f1 (by rw [es]; simp), ?_, fun pz H7 hpz k7 B7 => ?_⟩
      · have := R5s.sep.2.2.2
        exact (List.nodup_append.mp this).1
      · simp only [dS]
        exact dp_tup e6 (.cons (.str _) (.cons (.str _) (.cons (.str _) .nil)))
      walk_at "rk"
      have R7 := R5s.top2 hsr5 k6 hpz k7 B7
      refine q (mgo (mgo { ms with pend := some .join0, many := ms.many + 1 } (.more (.join1 x))) (.stm (.join x y))) (i + 1 + 1 + 1) (a1 :: as') ([a1, pc, po] ++ fo4) H7 (by omega) m5 rfl (by show ms.many + 1 ≤ _; omega) (g4.trans g5) ?_
      show RsAt K H0 H7 r aw pbl ws (i + 1 + 1 + 1) _ (addS (.join x y) ms.stk) _ (ms.many + 1) ms.deep
      rw [es]
      exact R7
    · refine r_F (by decide +kernel) ?_
      walk_at "rk"
      refine r_T (by decide +kernel) ?_
      walk_at "rk"
      have R3s := R3
      rw [es] at R3s
      obtain ⟨a1', as3, fo3, fo4, eas, eft, hfa3, hsr3⟩ := R3s.st.top
      obtain ⟨rfl, rfl⟩ := List.cons.inj eas
      obtain ⟨kk, vt, pc, po, dxb, tb, cs, os, j1, j2, j3, j4, rfl, j6⟩ := hfa3.ex
      refine r_mt j1 rfl ?_
      walk_at "rk"
      obtain ⟨dx3, ho3⟩ := R3.o
      refine r_mt ho3 rfl ?_
      walk_at "rk"
      refine ⟨r, ms.stk, rfl, by omega, H0, aw, pbl, ws, i + 1, _, _, ms.many + 1, ms.deep, R3, b1, fun y ey hy => b2 y ey (show pnext (scp ms.stk) .clear0 y = none by simp [pnext, hy]), fun x H4 ex hx R4 k4 => ?_⟩
      have h4 : pnext (scp ms.stk) .clear0 x = some (.stm (.clear x)) := by simp [pnext, hx]
      have g4 := mtot_go (s := { ms with pend := some .clear0, many := ms.many + 1 }) rfl ex h4
      have m4 := go_ok (s := { ms with pend := some .clear0, many := ms.many + 1 }) mo1 rfl h4
      have R4s := R4
      rw [es] at R4s
      obtain ⟨a1', as4, fo5, fo6, eas4, eft4, hfa4, hsr4⟩ := R4s.st.top
      obtain ⟨rfl, rfl⟩ := List.cons.inj eas4
      rw [eft4] at R4s
      walk_at "rk"
      refine r_newT (by simp) fun p6 H6 n6 k6 e6 => ?_
      refine ⟨_, f1, fo5, .ref p6, .clear x, rfl, hfa4.keep k6 (by simp), (List.nodup_append.mp R4s.sep.2.2.2).1, cl f1 (by rw [es]; simp), ?_, fun pz H7 hpz k7 B7 => ?_⟩
      · simp only [dS]
        exact dp_tup e6 (.cons (.str _) (.cons (.str _) .nil))
      walk_at "rk"
      have R7 := R4s.top2 hsr4 k6 hpz k7 B7
      refine q (mgo { ms with pend := some .clear0, many := ms.many + 1 } (.stm (.clear x))) (i + 1 + 1) (a1 :: as') (fo5 ++ fo6) H7 (by omega) m4 rfl (by show ms.many + 1 ≤ _; omega) g4 ?_
      show RsAt K H0 H7 r aw pbl ws (i + 1 + 1) _ (addS (.clear x) ms.stk) _ (ms.many + 1) ms.deep
      rw [es]
      exact R7
    · have hx2 : (z = kEach ∧ p = .each0) ∨ ∃ k, z = tkw k ∧ p = .t0 k := by
        rcases hx with h | h | h | h
        · exact .inl h
        · exact .inr ⟨.ife, h⟩
        · exact .inr ⟨.whl, h⟩
        · exact .inr ⟨.unt, h⟩
      have hx3 : z ≠ kJoin ∧ z ≠ kClear := by
        rcases hx2 with ⟨rfl, _⟩ | ⟨k, rfl, _⟩
        · exact each_ne
        · exact tkw_ne k
      refine r_F (decide_eq_false hx3.1) ?_
      walk_at "rk"
      refine r_F (decide_eq_false hx3.2) ?_
      walk_at "rk"
      obtain ⟨dx3, ho3⟩ := R3.o
      refine r_mt ho3 rfl ?_
      walk_at "rk"
      refine ⟨H0, r, aw, pbl, ws, i + 1, _, _, ms.many + 1, ms.deep, { ms with pend := some p, many := ms.many + 1 }, z, p, rfl, mo1, R3, by show ms.stk.length ≤ _; omega, mo.ne, hbz, hx2, rfl, hb, fun h j as4 ft4 H4 hj g4 m4 R4 => ?_⟩
      walk_at "rk"
      exact q (mgo { ms with pend := some p, many := ms.many + 1 } (.opn h)) j as4 ft4 H4 (by omega) m4 rfl (by show ms.many + 1 ≤ _; omega) g4 R4
end
end Hj
end
section
set_option Elab.async false
set_option linter.all false
set_option maxRecDepth 100000
set_option maxHeartbeats 16000000
local macro_rules | `(tactic| walk_at "rd") => `(tactic| repeat (first
  | with_reducible refine Hj.r_seq ?_
  | with_reducible refine Hj.r_nx ?_
  | with_reducible refine Hj.r_rt ?_
  | with_reducible refine L2.iteT ?_
  | with_reducible refine L2.iteF ?_
  | with_reducible refine Hj.r_set ?_
  | with_reducible refine Hj.r_gname ?_
  | with_reducible refine Hj.r_if ?_
  | with_reducible refine Hj.r_ret ?_
  | ((with_reducible show L2.tVar _ _ _ _); refine Hj.r_var rfl ?_)
  | with_reducible refine Hj.r_c ?_
  | with_reducible refine Hj.r_cons ?_
  | with_reducible refine Hj.r_nil ?_
  | with_reducible refine Hj.r_op ?_
  | with_reducible refine Hj.r_test ?_
  | with_reducible refine Hj.r_B ?_
  | with_reducible refine Hj.r_cb ?_
  | with_reducible refine Hj.r_blV ?_
  | with_reducible refine Hj.r_and ?_
  | with_reducible refine Hj.r_or ?_
  | with_reducible refine Hj.r_not ?_
  | with_reducible refine Hj.r_call ?_
  | with_reducible refine Hj.r_tup ?_
  | with_reducible refine Hj.r_lst ?_
  | with_reducible refine Hj.r_eqS ?_
  | with_reducible refine Hj.r_eqI ?_
  | with_reducible refine Hj.r_neS ?_
  | with_reducible refine Hj.r_neI ?_
  | with_reducible refine Hj.r_isN ?_
  | with_reducible refine Hj.r_I0 ?_
  | with_reducible refine Hj.r_addI ?_
  | with_reducible refine Hj.r_intOf ?_
  | with_reducible refine Hj.r_mx ?_
  | with_reducible refine Hj.r_un ?_
  | with_reducible refine Hj.r_neg ?_
  | with_reducible refine Hj.r_drop ?_
  | with_reducible refine Hj.r_next ?_
  | with_reducible refine Hj.r_retN ?_
  | with_reducible refine Hj.r_sub ?_
  | with_reducible refine Hj.r_asg ?_
  | with_reducible refine Hj.r_bm ?_
  | with_reducible refine Hj.r_bm0 ?_
  | with_reducible refine Hj.r_meth ?_
  | with_reducible refine Hj.r_make ?_
  | with_reducible refine Hj.r_fldK ?_
  | with_reducible refine Hj.r_setK ?_
  | with_reducible refine Hj.r_sl ?_
  | with_reducible refine Hj.r_no ?_
  | with_reducible refine Hj.r_mkB ?_
  | with_reducible refine Hj.r_chain ?_
  | with_reducible refine Hj.r_leS ?_
  | with_reducible refine Hj.r_mkM ?_
  | with_reducible refine Hj.r_part ?_
  | with_reducible refine Hj.r_partI ?_
  | with_reducible refine Hj.r_m1 ?_
  | with_reducible refine Hj.r_strs ?_
  | with_reducible refine Hj.r_andV ?_
  | with_reducible refine Hj.r_orV ?_
  | with_reducible refine Hj.r_notV ?_
  | with_reducible refine Hj.r_for ?_
  | with_reducible refine Hj.r_rng ?_
  | with_reducible refine Hj.r_itL ?_
  | with_reducible refine Hj.r_itT ?_
  | with_reducible refine Hj.r_itS ?_
  | with_reducible refine Hj.r_itSE ?_))
local macro_rules | `(tactic| walk_at "rk") => `(tactic| repeat (first
  | with_reducible refine Hj.r_seq ?_
  | with_reducible refine Hj.r_nx ?_
  | with_reducible refine Hj.r_rt ?_
  | with_reducible refine L2.iteT ?_
  | with_reducible refine L2.iteF ?_
  | with_reducible refine Hj.r_set ?_
  | with_reducible refine Hj.r_gname ?_
  | with_reducible refine Hj.r_if ?_
  | with_reducible refine Hj.r_ret ?_
  | ((with_reducible show L2.tVar _ _ _ _); refine Hj.r_var rfl ?_)
  | with_reducible refine Hj.r_c ?_
  | with_reducible refine Hj.r_cons ?_
  | with_reducible refine Hj.r_nil ?_
  | with_reducible refine Hj.r_op ?_
  | with_reducible refine Hj.r_test ?_
  | with_reducible refine Hj.r_B ?_
  | with_reducible refine Hj.r_cb ?_
  | with_reducible refine Hj.r_blV ?_
  | with_reducible refine Hj.r_and ?_
  | with_reducible refine Hj.r_or ?_
  | with_reducible refine Hj.r_not ?_
  | with_reducible refine Hj.r_call ?_
  | with_reducible refine Hj.r_tupK ?_
  | with_reducible refine Hj.r_lstK ?_
  | with_reducible refine Hj.r_eqS ?_
  | with_reducible refine Hj.r_eqI ?_
  | with_reducible refine Hj.r_neS ?_
  | with_reducible refine Hj.r_neI ?_
  | with_reducible refine Hj.r_isN ?_
  | with_reducible refine Hj.r_I0 ?_
  | with_reducible refine Hj.r_addI ?_
  | with_reducible refine Hj.r_intOf ?_
  | with_reducible refine Hj.r_mx ?_
  | with_reducible refine Hj.r_un ?_
  | with_reducible refine Hj.r_neg ?_
  | with_reducible refine Hj.r_drop ?_
  | with_reducible refine Hj.r_next ?_
  | with_reducible refine Hj.r_retN ?_
  | with_reducible refine Hj.r_sub ?_
  | with_reducible refine Hj.r_asg ?_
  | with_reducible refine Hj.r_bm ?_
  | with_reducible refine Hj.r_bm0 ?_
  | with_reducible refine Hj.r_meth ?_
  | with_reducible refine Hj.r_make ?_
  | with_reducible refine Hj.r_fldK ?_
  | with_reducible refine Hj.r_setK ?_
  | with_reducible refine Hj.r_sl ?_
  | with_reducible refine Hj.r_no ?_
  | with_reducible refine Hj.r_mkB ?_
  | with_reducible refine Hj.r_chain ?_
  | with_reducible refine Hj.r_leS ?_
  | with_reducible refine Hj.r_mkM ?_
  | with_reducible refine Hj.r_part ?_
  | with_reducible refine Hj.r_partI ?_
  | with_reducible refine Hj.r_m1 ?_
  | with_reducible refine Hj.r_strs ?_
  | with_reducible refine Hj.r_andV ?_
  | with_reducible refine Hj.r_orV ?_
  | with_reducible refine Hj.r_notV ?_
  | with_reducible refine Hj.r_for ?_
  | with_reducible refine Hj.r_rng ?_
  | with_reducible refine Hj.r_itL ?_
  | with_reducible refine Hj.r_itT ?_
  | with_reducible refine Hj.r_itS ?_
  | with_reducible refine Hj.r_itSE ?_))
local macro_rules | `(tactic| walk_at "cl") => `(tactic| ((try dsimp only [L2.cxOf, L2.Cx.nox]); simp only [L2.start, List.map, List.length, List.replicate, List.cons_append, List.nil_append, Nat.reduceAdd, Nat.reduceSub]))
local macro_rules | `(tactic| walk_at "len") => `(tactic| (intro vs H Q E h; first
  | (obtain ⟨_, ee, _⟩ := h; subst ee; rfl) | (obtain ⟨_, _, ee, _⟩ := h; subst ee; rfl) | (obtain ⟨_, _, _, ee, _⟩ := h; subst ee; rfl) | (obtain ⟨_, _, _, _, ee, _⟩ := h; subst ee; rfl) | (obtain ⟨_, _, _, _, _, ee, _⟩ := h; subst ee; rfl) | (obtain ⟨_, _, _, _, _, _, ee, _⟩ := h; subst ee; rfl)
  | (obtain ⟨_, _, _, _, _, _, _, ee, _⟩ := h; subst ee; rfl) | (obtain ⟨_, _, _, _, _, _, _, _, ee, _⟩ := h; subst ee; rfl) | (obtain ⟨_, _, _, _, _, _, _, _, _, ee, _⟩ := h; subst ee; rfl) | (obtain ⟨_, _, _, _, _, _, _, _, _, _, ee, _⟩ := h; subst ee; rfl)))
namespace Hj
open PySem PySem.Spec L2
theorem mem_sumL {ys : List Str} {y : Str} (h : y ∈ ys) : y.length ≤ sumL ys := by
  induction ys with
  | nil => cases h
  | cons x r ih =>
    have e : sumL (x :: r) = x.length + sumL r := by simp [sumL]
    rcases List.mem_cons.mp h with rfl | h
    · omega
    · have := ih h
      omega
section
variable {P : Program} {w : World} {K : PySem.W.Frag} {mg : Str → Option Value} {base : Heap}
/-! ### OrderReader(words) -/
def spRInit (K : PySem.W.Frag) : Sp := fun vs H Q _ => ∃ (H0 : Hp) (x dx aw : Addr) (ws : List Str), vs = [.ref x, .ref aw] ∧ H x = some (.ins (cR K) dx []) ∧ H aw = some (.lst (ws.map V.str)) ∧ x ≠ aw ∧ H0 x = none ∧ H0 aw = none ∧ Kp [] H0 H ∧ ws.length ≤ 200000 ∧ (∀ z ∈ ws, z.length ≤ 100000) ∧
  ∀ (pbl : Addr) (as ft : List Addr) (H' : Hp), RsAt K H0 H' x aw pbl ws 0 as m0.stk ft 0 0 → Q .non H'
theorem sc_OrderReader__init : FnScope ["self", "words"] ["self", "words"] (defScope s_OrderReader_init) := ⟨rfl, rfl, rfl, by decide +kernel, rfl, by decide +kernel, by decide +kernel⟩
theorem ok_RInit {f : Addr} {fd : FuncData} (F : Fun K "__init__" "OrderReader.__init__" s_OrderReader_init f fd) (T : Txt P K mg) (N_OpenBlock : Nn P w K mg base CX0 1 "OpenBlock" (cB K) ["self", "word", "thing"] (spBInit K)) : FnOk P w K mg base CX0 3 f fd ["self", "words"] (spRInit K) := by
  refine F.ok sc_OrderReader__init ?_ (fun cdv A outer s0 H vs Q E hr0 h => ?_)
  · walk_at "len"
  obtain ⟨H0, x, dx, aw, ws, rfl, hx, hw, hxw, fx, fw, k0, w1, w2, q⟩ := h
  have hr1 : Room (1 + 1) (A.deeper (PyProof.Rows.envOfC "OrderReader.__init__" (defScope s_OrderReader_init) s0.heap.objs.size f cdv)) := hr0
  refine ⟨_, (pss_cons (ps_fld (pv 0) (pv 1) rfl) (pss_cons (ps_fld (pv 0) pe_int rfl) (pss_cons (ps_fld (pv 0) (pe_lst (pa_cons (pe_n N_OpenBlock hr1 pass0 (pa_cons pe_str (pa_cons pe_str pa_nil))) pa_nil)) rfl) (pss_cons (ps_fld (pv 0) pe_int rfl) (pss_one (ps_fld (pv 0) pe_int rfl)))))), ?_⟩
  walk_at "cl"
  walk_at "rk"
  refine r_laid hx T.clR T.rW (by simp) fun H1 k1 e1 => ?_
  walk_at "rk"
  refine r_laid e1 T.clR T.rA (Nat.lt_of_le_of_lt (putF_ok (n := 0) (by simp)) (by decide)) fun H2 k2 e2 => ?_
  walk_at "rk"
  intro b dxb nb nd nbd
  have k3 : Kp [] H2 (upd (upd H2 dxb (.own b)) b (.ins (cB K) dxb [])) := (Kp.new nd).trans (Kp.new (by rw [upd_ne (Ne.symm nbd)]; exact nb))
  have K2 : Kp [x] H H2 := k1.trans k2
  have kH02 : Kp [] H0 H2 := k0.young K2 fun b hb => by rw [List.mem_singleton.mp hb]; exact fx
  refine ⟨b, dxb, "", .str "", rfl, upd_same, fun pc po H4 npc npo hpo k4 e4 ec eo => ⟨rfl, ?_⟩⟩
  have k24 : Kp [] H2 H4 := k3.young k4 fun y hy => by rw [List.mem_singleton.mp hy]; exact nb
  walk_at "rk"
  refine r_newL (by simp) fun pbl H5 n5 k5 e5 => ?_
  walk_at "rk"
  have k25 : Kp [] H2 H5 := k24.trans k5
  have e25 := k25.get e2 (by simp)
  refine r_laid e25 T.clR T.rB (Nat.lt_of_le_of_lt (putF_ok (putF_ok (n := 0) (by simp))) (by decide)) fun H6 k6 e6 => ?_
  walk_at "rk"
  refine r_laid e6 T.clR T.rC (Nat.lt_of_le_of_lt (putF_ok (putF_ok (putF_ok (n := 0) (by simp)))) (by decide)) fun H7 k7 e7 => ?_
  walk_at "rk"
  refine r_laid e7 T.clR T.rD (Nat.lt_of_le_of_lt (putF_ok (putF_ok (putF_ok (putF_ok (n := 0) (by simp))))) (by decide)) fun H8 k8 e8 => ?_
  have K8 : Kp [x] H5 H8 := (k6.trans k7).trans k8
  have g8 : ∀ {y : Addr} {o : HO}, H5 y = some o → y ≠ x → H8 y = some o := fun h hn => K8.get h (by simpa using hn)
  have w2' : H2 aw = some (.lst (ws.map V.str)) := K2.get hw (by simpa using Ne.symm hxw)
  have nf : ∀ {y z : Addr} {Ha : Hp} {o : HO}, Ha y = some o → Ha z = none → y ≠ z := fun h1 h2 e => by
    rw [e, h2] at h1
    cases h1
  have xb : x ≠ b := nf e2 nb
  have ab : aw ≠ b := nf w2' nb
  have xc : x ≠ pc := nf (k3.get e2 (by simp)) npc
  have ac : aw ≠ pc := nf (k3.get w2' (by simp)) npc
  have xo : x ≠ po := nf (k3.get e2 (by simp)) npo
  have ao : aw ≠ po := nf (k3.get w2' (by simp)) npo
  have bc : b ≠ pc := nf upd_same npc
  have bo : b ≠ po := nf upd_same npo
  have xl : x ≠ pbl := nf (k24.get e2 (by simp)) n5
  have al : aw ≠ pbl := nf (k24.get w2' (by simp)) n5
  have bl : b ≠ pbl := nf e4 n5
  have cl : pc ≠ pbl := nf ec n5
  have ol : po ≠ pbl := nf eo n5
  refine q pbl [b] ([b, pc, po] ++ []) H8 ⟨⟨dx, e8⟩, g8 (k25.get w2' (by simp)) (Ne.symm hxw), g8 e5 (Ne.symm xl), ⟨_, _, rfl, ⟨"", .str "", pc, po, dxb, false, [], [], g8 (k5.get e4 (by simp)) (Ne.symm xb), .root, g8 (k5.get ec (by simp)) (Ne.symm xc), g8 (k5.get eo (by simp)) (Ne.symm xo), rfl, .inl ⟨rfl, rfl, .nil, rfl⟩⟩, rfl⟩, ?_, ?_, ?_, w1, w2, Nat.zero_le _⟩
  · simp only [List.append_nil, List.nodup_cons, List.mem_cons, List.not_mem_nil, or_false, not_or, List.nodup_nil, and_true, not_false_eq_true]
    exact ⟨⟨hxw, xl, xb, xc, xo⟩, ⟨al, ab, ac, ao⟩, ⟨Ne.symm bl, Ne.symm cl, Ne.symm ol⟩, ⟨bc, bo⟩, hpo⟩
  · intro y hy
    simp only [List.append_nil, List.mem_cons, List.not_mem_nil, or_false] at hy
    rcases hy with rfl | rfl | rfl | rfl | rfl | rfl
    · exact fx
    · exact fw
    · exact (kH02.trans k24).free0 n5
    · exact kH02.free0 nb
    · exact (kH02.trans k3).free0 npc
    · exact (kH02.trans k3).free0 npo
  · exact (kH02.trans k25).young K8 fun y hy => by rw [List.mem_singleton.mp hy]; exact fx
/-! ### read_order -/
def spROrd (K : PySem.W.Frag) : Sp := fun vs H Q E => ∃ (H0 : Hp) (r aw pbl : Addr) (ws : List Str) (as ft : List Addr), vs = [.ref r] ∧ RsAt K H0 H r aw pbl ws 0 as m0.stk ft 0 0 ∧ (∀ m, readW ws = .bad m → Bad K E H0 (ws.length - m)) ∧
  ∀ (v : V) (o : List Stm) (n d i : Nat) (as' ft' : List Addr) (stk : List Fr) (H' : Hp), (readW ws = if 12 < n then .many n else if 3 < d then .deep d else .told o n d) → Dp K H' v (dO o) → RsAt K H0 H' r aw pbl ws i as' stk ft' n d → Q v H'
theorem sc_OrderReader_read_order : FnScope ["self"] ["self"] (defScope s_OrderReader_read_order) := ⟨rfl, rfl, rfl, by decide +kernel, rfl, by decide +kernel, by decide +kernel⟩
theorem ok_ROrd {f : Addr} {fd : FuncData} (F : Fun K "read_order" "OrderReader.read_order" s_OrderReader_read_order f fd) (T : Txt P K mg) (M_read_step : Mn P w K mg base (L2.CX P w) 10 (cR K) "read_step" ["self"] (spStep K)) : FnOk P w K mg base (L2.CX P w) 11 f fd ["self"] (spROrd K) := by
  refine F.okX sc_OrderReader_read_order ?_ (fun cdv A outer s0 H vs Q E hr0 h => ?_)
  · walk_at "len"
  obtain ⟨H0, r, aw, pbl, ws, as, ft, rfl, R, hb, q⟩ := h
  refine ⟨_, (pss_cons (ps_while (passes_of rfl) (PW.pt (pw_or (pt_cmpR op_gt (pe_callB call_lenA (by rfl) T.zlen (by decide +kernel) (pa_cons (pe_fld (pv 0) rfl) pa_nil)) pe_int (nomark _)) (pw_or1 (pt_cmpR op_lt (pe_fld (pv 0) rfl) (pe_callB call_lenA (by rfl) T.zlen (by decide +kernel) (pa_cons (pe_fld (pv 0) rfl) pa_nil)) (nomark _))))) (pss_one (ps_expr (pe_m0 T.clR M_read_step hr0 (passes_call (takes_of rfl rfl rfl rfl) (fun _ _ _ _ z => z)) (pv 0))))) (pss_one (ps_ret (pe_callTy call_tupOf (by rfl) T.ztuple (by decide +kernel) (pa_cons (pe_fld (pe_ix ix_seq (pe_fld (pv 0) rfl) pe_int (fun _ _ => rfl)) rfl) pa_nil))))), ?_⟩
  walk_at "cl"
  walk_at "rk"
  refine ⟨fun m σ' H' => ∃ (ms : MS) (i : Nat) (as ft : List Addr), σ' = [some (.ref r)] ∧ m = ws.length - i ∧ RsAt K H0 H' r aw pbl ws i as ms.stk ft ms.many ms.deep ∧ MSok ms ∧ ms.pend = none ∧ ms.many ≤ i ∧ mtot ms (ws.drop i) = readW ws, ⟨ws.length - 0, m0, 0, as, ft, rfl, rfl, R, m0_ok, rfl, Nat.le_refl _, rfl⟩, ?_⟩
  rintro m σ' H1 ⟨ms, i, as, ft, rfl, rfl, R, mo, hp, mn, mt⟩
  obtain ⟨dx, ho⟩ := R.o
  obtain ⟨l1, l2, l3, l4, l5⟩ := lk_rfs aw (i : Int) pbl (ms.many : Int) (ms.deep : Int)
  have hlen := R.st.len
  have step : (1 < ms.stk.length ∨ i < ws.length) → ∃ N : L2.St → Hp → Prop, (∀ σ' H', N σ' H' → ∃ m', m' < ws.length - i ∧ ∃ (ms : MS) (i : Nat) (as ft : List Addr), σ' = [some (.ref r)] ∧ m' = ws.length - i ∧ RsAt K H0 H' r aw pbl ws i as ms.stk ft ms.many ms.deep ∧ MSok ms ∧ ms.pend = none ∧ ms.many ≤ i ∧ mtot ms (ws.drop i) = readW ws) ∧
      spStep K [.ref r] H1 (fun _ H' => N [some (.ref r)] H') E := fun hgo => by
    refine ⟨fun σ' H' => ∃ m', m' < ws.length - i ∧ ∃ (ms : MS) (i : Nat) (as ft : List Addr), σ' = [some (.ref r)] ∧ m' = ws.length - i ∧ RsAt K H0 H' r aw pbl ws i as ms.stk ft ms.many ms.deep ∧ MSok ms ∧ ms.pend = none ∧ ms.many ≤ i ∧ mtot ms (ws.drop i) = readW ws, fun _ _ h => h, ?_⟩
    refine ⟨H0, r, aw, pbl, ws, i, as, ft, ms, rfl, R, mo, hp, mn, hgo, by rw [mt]; exact hb, fun ms' j as' ft' H' hj mo' hp' mn' mt' R' => ?_⟩
    have := R'.l3
    exact ⟨ws.length - j, by omega, ms', j, as', ft', rfl, rfl, R', mo', hp', mn', by rw [← mt', mt]⟩
  walk_at "rk"
  refine r_get ho T.clR T.rB l3 ?_
  walk_at "rk"
  refine r_lenL (SqL.of R.b) ?_
  walk_at "rk"
  rw [List.length_map, List.length_reverse, hlen]
  refine r_d (fun c1 => ?_) (fun c1 => ?_)
  · walk_at "rk"
    obtain ⟨N, hN, hs⟩ := step (.inl (by omega))
    refine ⟨N, hN, ?_⟩
    walk_at "rk"
    refine r_mt ho rfl ?_
    walk_at "rk"
    exact hs
  · walk_at "rk"
    refine r_get ho T.clR T.rA l2 ?_
    walk_at "rk"
    refine r_get ho T.clR T.rW l1 ?_
    walk_at "rk"
    refine r_lenL (SqL.of R.w) ?_
    walk_at "rk"
    rw [List.length_map]
    refine r_d (fun c2 => ?_) (fun c2 => ?_)
    · obtain ⟨N, hN, hs⟩ := step (.inr (by omega))
      refine ⟨N, hN, ?_⟩
      walk_at "rk"
      refine r_mt ho rfl ?_
      walk_at "rk"
      exact hs
    · walk_at "rk"
      have ei : i = ws.length := by have := R.l3; omega
      subst ei
      rw [List.drop_length] at mt
      have hne : ¬ (ms.pend.isSome = true ∨ 1 < ms.stk.length) := by
        rw [hp]
        rintro (h | h)
        · cases h
        · omega
      have er : readW ws = if 12 < ms.many then .many ms.many else if 3 < ms.deep then .deep ms.deep else .told (rootOf ms.stk) ms.many ms.deep := by
        rw [← mt]
        simp only [mtot, mend, if_neg hne]
      obtain ⟨f1, es⟩ : ∃ f, ms.stk = [f] := by
        cases h : ms.stk with
        | nil => exact absurd h mo.ne
        | cons f r =>
          cases r with
          | nil => exact ⟨f, rfl⟩
          | cons g r => rw [h] at c1; simp at c1; omega
      have Rs := R
      rw [es] at Rs er
      obtain ⟨a1, as', fo1, fo2, rfl, rfl, hfa, hsr⟩ := Rs.st.top
      obtain rfl : as' = [] := List.eq_nil_of_length_eq_zero hsr.len
      obtain ⟨kk, vt, pc, po, dxb, tb, cs, os, j1, j2, j3, j4, rfl, j6⟩ := hfa.ex
      obtain ⟨m1, m2, m3, m4, m5⟩ := lk_bfs kk vt pc po tb
      have hcs : DpAll K H1 cs (dL f1.cur) := by
        rcases j6 with ⟨_, _, h, _⟩ | ⟨b, h, _, _⟩
        · exact h
        · have := mo.ok
          rw [es] at this
          obtain ⟨⟨_, _, h3, h4, h5⟩, _⟩ := this
          have h6 := h4 (by rw [h]; simp)
          have h7 := h5.mpr rfl
          cases hh : f1.hd <;> rw [hh] at h6 h7 <;> first | exact h6.elim | exact h7.elim
      refine r_get ho T.clR T.rB l3 ?_
      walk_at "rk"
      refine r_ixL (v := .ref a1) (SqL.of R.b) (atI_nat (j := 0) rfl) ?_
      walk_at "rk"
      refine r_get j1 T.clB T.bB m3 ?_
      walk_at "rk"
      refine r_tupOfK (SqL.of j3) fun p3 H3 n3 k3 e3 => ?_
      exact q _ f1.cur ms.many ms.deep ws.length _ _ _ H3 er (dp_tup e3 (dps_keep k3 _ _ (flat_L _) hcs)) (R.keep0 k3)
end
end Hj
end
section
set_option Elab.async false
set_option linter.all false
set_option maxRecDepth 100000
set_option maxHeartbeats 16000000
local macro_rules | `(tactic| walk_at "rd") => `(tactic| repeat (first
  | with_reducible refine Hj.r_seq ?_
  | with_reducible refine Hj.r_nx ?_
  | with_reducible refine Hj.r_rt ?_
  | with_reducible refine L2.iteT ?_
  | with_reducible refine L2.iteF ?_
  | with_reducible refine Hj.r_set ?_
  | with_reducible refine Hj.r_gname ?_
  | with_reducible refine Hj.r_if ?_
  | with_reducible refine Hj.r_ret ?_
  | ((with_reducible show L2.tVar _ _ _ _); refine Hj.r_var rfl ?_)
  | with_reducible refine Hj.r_c ?_
  | with_reducible refine Hj.r_cons ?_
  | with_reducible refine Hj.r_nil ?_
  | with_reducible refine Hj.r_op ?_
  | with_reducible refine Hj.r_test ?_
  | with_reducible refine Hj.r_B ?_
  | with_reducible refine Hj.r_cb ?_
  | with_reducible refine Hj.r_blV ?_
  | with_reducible refine Hj.r_and ?_
  | with_reducible refine Hj.r_or ?_
  | with_reducible refine Hj.r_not ?_
  | with_reducible refine Hj.r_call ?_
  | with_reducible refine Hj.r_tup ?_
  | with_reducible refine Hj.r_lst ?_
  | with_reducible refine Hj.r_eqS ?_
  | with_reducible refine Hj.r_eqI ?_
  | with_reducible refine Hj.r_neS ?_
  | with_reducible refine Hj.r_neI ?_
  | with_reducible refine Hj.r_isN ?_
  | with_reducible refine Hj.r_I0 ?_
  | with_reducible refine Hj.r_addI ?_
  | with_reducible refine Hj.r_intOf ?_
  | with_reducible refine Hj.r_mx ?_
  | with_reducible refine Hj.r_un ?_
  | with_reducible refine Hj.r_neg ?_
  | with_reducible refine Hj.r_drop ?_
  | with_reducible refine Hj.r_next ?_
  | with_reducible refine Hj.r_retN ?_
  | with_reducible refine Hj.r_sub ?_
  | with_reducible refine Hj.r_asg ?_
  | with_reducible refine Hj.r_bm ?_
  | with_reducible refine Hj.r_bm0 ?_
  | with_reducible refine Hj.r_meth ?_
  | with_reducible refine Hj.r_make ?_
  | with_reducible refine Hj.r_fldK ?_
  | with_reducible refine Hj.r_setK ?_
  | with_reducible refine Hj.r_sl ?_
  | with_reducible refine Hj.r_no ?_
  | with_reducible refine Hj.r_mkB ?_
  | with_reducible refine Hj.r_chain ?_
  | with_reducible refine Hj.r_leS ?_
  | with_reducible refine Hj.r_mkM ?_
  | with_reducible refine Hj.r_part ?_
  | with_reducible refine Hj.r_partI ?_
  | with_reducible refine Hj.r_m1 ?_
  | with_reducible refine Hj.r_strs ?_
  | with_reducible refine Hj.r_andV ?_
  | with_reducible refine Hj.r_orV ?_
  | with_reducible refine Hj.r_notV ?_
  | with_reducible refine Hj.r_for ?_
  | with_reducible refine Hj.r_rng ?_
  | with_reducible refine Hj.r_itL ?_
  | with_reducible refine Hj.r_itT ?_
  | with_reducible refine Hj.r_itS ?_
  | with_reducible refine Hj.r_itSE ?_))
local macro_rules | `(tactic| walk_at "rk") => `(tactic| repeat (first
  | with_reducible refine Hj.r_seq ?_
  | with_reducible refine Hj.r_nx ?_
  | with_reducible refine Hj.r_rt ?_
  | with_reducible refine L2.iteT ?_
  | with_reducible refine L2.iteF ?_
  | with_reducible refine Hj.r_set ?_
  | with_reducible refine Hj.r_gname ?_
  | with_reducible refine Hj.r_if ?_
  | with_reducible refine Hj.r_ret ?_
  | ((with_reducible show L2.tVar _ _ _ _); refine Hj.r_var rfl ?_)
  | with_reducible refine Hj.r_c ?_
  | with_reducible refine Hj.r_cons ?_
  | with_reducible refine Hj.r_nil ?_
  | with_reducible refine Hj.r_op ?_
  | with_reducible refine Hj.r_test ?_
  | with_reducible refine Hj.r_B ?_
  | with_reducible refine Hj.r_cb ?_
  | with_reducible refine Hj.r_blV ?_
  | with_reducible refine Hj.r_and ?_
  | with_reducible refine Hj.r_or ?_
  | with_reducible refine Hj.r_not ?_
  | with_reducible refine Hj.r_call ?_
  | with_reducible refine Hj.r_tupK ?_
  | with_reducible refine Hj.r_lstK ?_
  | with_reducible refine Hj.r_eqS ?_
  | with_reducible refine Hj.r_eqI ?_
  | with_reducible refine Hj.r_neS ?_
  | with_reducible refine Hj.r_neI ?_
  | with_reducible refine Hj.r_isN ?_
  | with_reducible refine Hj.r_I0 ?_
  | with_reducible refine Hj.r_addI ?_
  | with_reducible refine Hj.r_intOf ?_
  | with_reducible refine Hj.r_mx ?_
  | with_reducible refine Hj.r_un ?_
  | with_reducible refine Hj.r_neg ?_
  | with_reducible refine Hj.r_drop ?_
  | with_reducible refine Hj.r_next ?_
  | with_reducible refine Hj.r_retN ?_
  | with_reducible refine Hj.r_sub ?_
  | with_reducible refine Hj.r_asg ?_
  | with_reducible refine Hj.r_bm ?_
  | with_reducible refine Hj.r_bm0 ?_
  | with_reducible refine Hj.r_meth ?_
  | with_reducible refine Hj.r_make ?_
  | with_reducible refine Hj.r_fldK ?_
  | with_reducible refine Hj.r_setK ?_
  | with_reducible refine Hj.r_sl ?_
  | with_reducible refine Hj.r_no ?_
  | with_reducible refine Hj.r_mkB ?_
  | with_reducible refine Hj.r_chain ?_
  | with_reducible refine Hj.r_leS ?_
  | with_reducible refine Hj.r_mkM ?_
  | with_reducible refine Hj.r_part ?_
  | with_reducible refine Hj.r_partI ?_
  | with_reducible refine Hj.r_m1 ?_
  | with_reducible refine Hj.r_strs ?_
  | with_reducible refine Hj.r_andV ?_
  | with_reducible refine Hj.r_orV ?_
  | with_reducible refine Hj.r_notV ?_
  | with_reducible refine Hj.r_for ?_
  | with_reducible refine Hj.r_rng ?_
  | with_reducible refine Hj.r_itL ?_
  | with_reducible refine Hj.r_itT ?_
  | with_reducible refine Hj.r_itS ?_
  | with_reducible refine Hj.r_itSE ?_))
local macro_rules | `(tactic| walk_at "cl") => `(tactic| ((try dsimp only [L2.cxOf, L2.Cx.nox]); simp only [L2.start, List.map, List.length, List.replicate, List.cons_append, List.nil_append, Nat.reduceAdd, Nat.reduceSub]))
local macro_rules | `(tactic| walk_at "len") => `(tactic| (intro vs H Q E h; first
  | (obtain ⟨_, ee, _⟩ := h; subst ee; rfl) | (obtain ⟨_, _, ee, _⟩ := h; subst ee; rfl) | (obtain ⟨_, _, _, ee, _⟩ := h; subst ee; rfl) | (obtain ⟨_, _, _, _, ee, _⟩ := h; subst ee; rfl) | (obtain ⟨_, _, _, _, _, ee, _⟩ := h; subst ee; rfl) | (obtain ⟨_, _, _, _, _, _, ee, _⟩ := h; subst ee; rfl)
  | (obtain ⟨_, _, _, _, _, _, _, ee, _⟩ := h; subst ee; rfl) | (obtain ⟨_, _, _, _, _, _, _, _, ee, _⟩ := h; subst ee; rfl) | (obtain ⟨_, _, _, _, _, _, _, _, _, ee, _⟩ := h; subst ee; rfl) | (obtain ⟨_, _, _, _, _, _, _, _, _, _, ee, _⟩ := h; subst ee; rfl)))
namespace Hj
open PySem PySem.Spec L2
section
variable {P : Program} {w : World} {K : PySem.W.Frag} {mg : Str → Option Value} {base : Heap}
/-! ### parse_order -/
def Good (K : PySem.W.Frag) (ws : List Str) (H : Hp) (Q : VK) (E : XK) : Prop := (∀ m, readW ws = .bad m → Bad K E H (ws.length - m)) ∧ (∀ n, readW ws = .many n → Many K E H n 12) ∧ (∀ d, readW ws = .deep d → Many K E H d 3) ∧
  ∀ (o : List Stm) (n d : Nat) (v : V) (H' : Hp), readW ws = .told o n d → Dp K H' v (dO o) → Kp [] H H' → Q v H'
def spParse (K : PySem.W.Frag) : Sp := fun vs H Q E => ∃ (z : Str), vs = [.str z] ∧ z.length ≤ 100000 ∧ Good K (wordsOf z) H Q E
theorem read_nil : readW [] = .told [] 0 0 := by
  simp [readW, mtot, mend, m0, rootOf]
theorem sc_parse_order : FnScope ["text", "reader", "order"] ["text"] (defScope s_parse_order) := ⟨rfl, rfl, rfl, by decide +kernel, rfl, by decide +kernel, by decide +kernel⟩
theorem ok_parse_order {f : Addr} {fd : FuncData} (F : Fun K "parse_order" "parse_order" s_parse_order f fd) (T : Txt P K mg) (N_OrderReader : Nn P w K mg base CX0 11 "OrderReader" (cR K) ["self", "words"] (spRInit K)) (M_read_order : Mn P w K mg base (L2.CX P w) 12 (cR K) "read_order" ["self"] (spROrd K)) : FnOk P w K mg base (L2.CX P w) 13 f fd ["text"] (spParse K) := by
  refine F.okX sc_parse_order ?_ (fun cdv A outer s0 H vs Q E hr0 h => ?_)
  · walk_at "len"
  obtain ⟨z, rfl, hz, g1, g2, g3, g4⟩ := h
  have hr1 : Room (11 + 1) (A.deeper (PyProof.Rows.envOfC "parse_order" (defScope s_parse_order) s0.heap.objs.size f cdv)) := hr0
  refine ⟨_, (pss_cons (ps_if (pt_cmpR op_eq (pv 0) pe_str (nomark _)) (pss_one (ps_ret (pe_tup pa_nil))) pss_nil) (pss_cons (ps_set (i := 1) sc_parse_order.nd rfl (Or.inl rfl) (pe_n N_OrderReader hr1 pass0 (pa_cons (pe_split (pv 0) pe_str) pa_nil))) (pss_cons (ps_set (i := 2) sc_parse_order.nd rfl (Or.inl rfl) (pe_m0 T.clR M_read_order hr0 (passes_call (takes_of rfl rfl rfl rfl) (fun _ _ _ _ z => z)) (pv 1))) (pss_cons (ps_if (pt_cmpR op_gt (pe_fld (pv 1) rfl) (pe_gc T.gMOST_STATEMENTS rfl) (nomark _)) (pss_one (ps_raise rfl (takes_of rfl rfl rfl rfl) (pmk_tm T.tm T.gTooMany T.hfile T.htop T.tmN T.tmL hr0 (pa_cons (pe_fld (pv 1) rfl) (pa_cons (pe_gc T.gMOST_STATEMENTS rfl) pa_nil)) rfl))) pss_nil) (pss_cons (ps_if (pt_cmpR op_gt (pe_fld (pv 1) rfl) (pe_gc T.gMOST_DEPTH rfl) (nomark _)) (pss_one (ps_raise rfl (takes_of rfl rfl rfl rfl) (pmk_tm T.tm T.gTooMany T.hfile T.htop T.tmN T.tmL hr0 (pa_cons (pe_fld (pv 1) rfl) (pa_cons (pe_gc T.gMOST_DEPTH rfl) pa_nil)) rfl))) pss_nil) (pss_one (ps_ret (pv 2)))))))), ?_⟩
  walk_at "cl"
  walk_at "rk"
  refine r_d (fun c1 => ?_) (fun c1 => ?_)
  · walk_at "rk"
    refine r_newT (by simp) fun p1 H1 n1 k1 e1 => ?_
    have ez : wordsOf z = [] := by
      unfold wordsOf
      rw [if_pos c1]
    rw [ez] at g4
    exact g4 [] 0 0 _ H1 read_nil (dp_tup e1 .nil) k1
  have ez : wordsOf z = Txt.split z kSp := by
    unfold wordsOf
    rw [if_neg c1]
  obtain ⟨sl1, sl2⟩ := split_len z
  rw [ez] at g1 g2 g3 g4
  have sl3 : ∀ y ∈ Txt.split z kSp, y.length ≤ 100000 := fun y hy => by
    have := mem_sumL hy
    omega
  generalize hws : Txt.split z kSp = ws at g1 g2 g3 g4 sl1 sl2 sl3
  walk_at "rk"
  refine r_splitK (by omega) fun p1 H1 n1 k1 e1 => ?_
  rw [hws] at e1
  walk_at "rk"
  intro x dx nx nd nxd
  have k2 : Kp [] H1 (upd (upd H1 dx (.own x)) x (.ins (cR K) dx [])) := (Kp.new nd).trans (Kp.new (by rw [upd_ne (Ne.symm nxd)]; exact nx))
  have xp : x ≠ p1 := fun e => by
    rw [e, e1] at nx
    cases nx
  refine ⟨H, x, dx, p1, ws, rfl, upd_same, k2.get e1 (by simp), xp, k1.free0 nx, n1, k1.trans k2, by omega, sl3, fun pbl as ft H3 R3 => ⟨rfl, ?_⟩⟩
  obtain ⟨dx3, ho3⟩ := R3.o
  walk_at "rk"
  refine r_mt ho3 rfl ?_
  walk_at "rk"
  refine ⟨H, x, p1, pbl, ws, as, ft, rfl, R3, g1, fun v o n d i as' ft' stk H4 er dv R4 => ?_⟩
  obtain ⟨dx4, ho4⟩ := R4.o
  obtain ⟨l1, l2, l3, l4, l5⟩ := lk_rfs p1 (i : Int) pbl (n : Int) (d : Int)
  walk_at "rk"
  refine r_get ho4 T.clR T.rC l4 ?_
  walk_at "rk"
  refine r_d (fun c2 => ?_) (fun c2 => ?_)
  · walk_at "rk"
    refine r_get ho4 T.clR T.rC l4 ?_
    walk_at "rk"
    exact r_manyK (l := 12) R4.kp (g2 n (by rw [er, if_pos (by omega)]))
  walk_at "rk"
  refine r_get ho4 T.clR T.rD l5 ?_
  walk_at "rk"
  refine r_d (fun c3 => ?_) (fun c3 => ?_)
  · walk_at "rk"
    refine r_get ho4 T.clR T.rD l5 ?_
    walk_at "rk"
    exact r_manyK (l := 3) R4.kp (g3 d (by rw [er, if_neg (by omega), if_pos (by omega)]))
  walk_at "rk"
  exact g4 o n d v H4 (by rw [er, if_neg (by omega), if_neg (by omega)]) dv R4.kp
end
end Hj
end
section
set_option Elab.async false
set_option linter.all false
set_option maxRecDepth 100000
set_option maxHeartbeats 16000000
local macro_rules | `(tactic| walk_at "rd") => `(tactic| repeat (first
  | with_reducible refine Hj.r_seq ?_
  | with_reducible refine Hj.r_nx ?_
  | with_reducible refine Hj.r_rt ?_
  | with_reducible refine L2.iteT ?_
  | with_reducible refine L2.iteF ?_
  | with_reducible refine Hj.r_set ?_
  | with_reducible refine Hj.r_gname ?_
  | with_reducible refine Hj.r_if ?_
  | with_reducible refine Hj.r_ret ?_
  | ((with_reducible show L2.tVar _ _ _ _); refine Hj.r_var rfl ?_)
  | with_reducible refine Hj.r_c ?_
  | with_reducible refine Hj.r_cons ?_
  | with_reducible refine Hj.r_nil ?_
  | with_reducible refine Hj.r_op ?_
  | with_reducible refine Hj.r_test ?_
  | with_reducible refine Hj.r_B ?_
  | with_reducible refine Hj.r_cb ?_
  | with_reducible refine Hj.r_blV ?_
  | with_reducible refine Hj.r_and ?_
  | with_reducible refine Hj.r_or ?_
  | with_reducible refine Hj.r_not ?_
  | with_reducible refine Hj.r_call ?_
  | with_reducible refine Hj.r_tup ?_
  | with_reducible refine Hj.r_lst ?_
  | with_reducible refine Hj.r_eqS ?_
  | with_reducible refine Hj.r_eqI ?_
  | with_reducible refine Hj.r_neS ?_
  | with_reducible refine Hj.r_neI ?_
  | with_reducible refine Hj.r_isN ?_
  | with_reducible refine Hj.r_I0 ?_
  | with_reducible refine Hj.r_addI ?_
  | with_reducible refine Hj.r_intOf ?_
  | with_reducible refine Hj.r_mx ?_
  | with_reducible refine Hj.r_un ?_
  | with_reducible refine Hj.r_neg ?_
  | with_reducible refine Hj.r_drop ?_
  | with_reducible refine Hj.r_next ?_
  | with_reducible refine Hj.r_retN ?_
  | with_reducible refine Hj.r_sub ?_
  | with_reducible refine Hj.r_asg ?_
  | with_reducible refine Hj.r_bm ?_
  | with_reducible refine Hj.r_bm0 ?_
  | with_reducible refine Hj.r_meth ?_
  | with_reducible refine Hj.r_make ?_
  | with_reducible refine Hj.r_fldK ?_
  | with_reducible refine Hj.r_setK ?_
  | with_reducible refine Hj.r_sl ?_
  | with_reducible refine Hj.r_no ?_
  | with_reducible refine Hj.r_mkB ?_
  | with_reducible refine Hj.r_chain ?_
  | with_reducible refine Hj.r_leS ?_
  | with_reducible refine Hj.r_mkM ?_
  | with_reducible refine Hj.r_part ?_
  | with_reducible refine Hj.r_partI ?_
  | with_reducible refine Hj.r_m1 ?_
  | with_reducible refine Hj.r_strs ?_
  | with_reducible refine Hj.r_andV ?_
  | with_reducible refine Hj.r_orV ?_
  | with_reducible refine Hj.r_notV ?_
  | with_reducible refine Hj.r_for ?_
  | with_reducible refine Hj.r_rng ?_
  | with_reducible refine Hj.r_itL ?_
  | with_reducible refine Hj.r_itT ?_
  | with_reducible refine Hj.r_itS ?_
  | with_reducible refine Hj.r_itSE ?_))
local macro_rules | `(tactic| walk_at "rk") => `(tactic| repeat (first
  | with_reducible refine Hj.r_seq ?_
  | with_reducible refine Hj.r_nx ?_
  | with_reducible refine Hj.r_rt ?_
  | with_reducible refine L2.iteT ?_
  | with_reducible refine L2.iteF ?_
  | with_reducible refine Hj.r_set ?_
  | with_reducible refine Hj.r_gname ?_
  | with_reducible refine Hj.r_if ?_
  | with_reducible refine Hj.r_ret ?_
  | ((with_reducible show L2.tVar _ _ _ _); refine Hj.r_var rfl ?_)
  | with_reducible refine Hj.r_c ?_
  | with_reducible refine Hj.r_cons ?_
  | with_reducible refine Hj.r_nil ?_
  | with_reducible refine Hj.r_op ?_
  | with_reducible refine Hj.r_test ?_
  | with_reducible refine Hj.r_B ?_
  | with_reducible refine Hj.r_cb ?_
  | with_reducible refine Hj.r_blV ?_
  | with_reducible refine Hj.r_and ?_
  | with_reducible refine Hj.r_or ?_
  | with_reducible refine Hj.r_not ?_
  | with_reducible refine Hj.r_call ?_
  | with_reducible refine Hj.r_tupK ?_
  | with_reducible refine Hj.r_lstK ?_
  | with_reducible refine Hj.r_eqS ?_
  | with_reducible refine Hj.r_eqI ?_
  | with_reducible refine Hj.r_neS ?_
  | with_reducible refine Hj.r_neI ?_
  | with_reducible refine Hj.r_isN ?_
  | with_reducible refine Hj.r_I0 ?_
  | with_reducible refine Hj.r_addI ?_
  | with_reducible refine Hj.r_intOf ?_
  | with_reducible refine Hj.r_mx ?_
  | with_reducible refine Hj.r_un ?_
  | with_reducible refine Hj.r_neg ?_
  | with_reducible refine Hj.r_drop ?_
  | with_reducible refine Hj.r_next ?_
  | with_reducible refine Hj.r_retN ?_
  | with_reducible refine Hj.r_sub ?_
  | with_reducible refine Hj.r_asg ?_
  | with_reducible refine Hj.r_bm ?_
  | with_reducible refine Hj.r_bm0 ?_
  | with_reducible refine Hj.r_meth ?_
  | with_reducible refine Hj.r_make ?_
  | with_reducible refine Hj.r_fldK ?_
  | with_reducible refine Hj.r_setK ?_
  | with_reducible refine Hj.r_sl ?_
  | with_reducible refine Hj.r_no ?_
  | with_reducible refine Hj.r_mkB ?_
  | with_reducible refine Hj.r_chain ?_
  | with_reducible refine Hj.r_leS ?_
  | with_reducible refine Hj.r_mkM ?_
  | with_reducible refine Hj.r_part ?_
  | with_reducible refine Hj.r_partI ?_
  | with_reducible refine Hj.r_m1 ?_
  | with_reducible refine Hj.r_strs ?_
  | with_reducible refine Hj.r_andV ?_
  | with_reducible refine Hj.r_orV ?_
  | with_reducible refine Hj.r_notV ?_
  | with_reducible refine Hj.r_for ?_
  | with_reducible refine Hj.r_rng ?_
  | with_reducible refine Hj.r_itL ?_
  | with_reducible refine Hj.r_itT ?_
  | with_reducible refine Hj.r_itS ?_
  | with_reducible refine Hj.r_itSE ?_))
local macro_rules | `(tactic| walk_at "cl") => `(tactic| ((try dsimp only [L2.cxOf, L2.Cx.nox]); simp only [L2.start, List.map, List.length, List.replicate, List.cons_append, List.nil_append, Nat.reduceAdd, Nat.reduceSub]))
local macro_rules | `(tactic| walk_at "len") => `(tactic| (intro vs H Q E h; first
  | (obtain ⟨_, ee, _⟩ := h; subst ee; rfl) | (obtain ⟨_, _, ee, _⟩ := h; subst ee; rfl) | (obtain ⟨_, _, _, ee, _⟩ := h; subst ee; rfl) | (obtain ⟨_, _, _, _, ee, _⟩ := h; subst ee; rfl) | (obtain ⟨_, _, _, _, _, ee, _⟩ := h; subst ee; rfl) | (obtain ⟨_, _, _, _, _, _, ee, _⟩ := h; subst ee; rfl)
  | (obtain ⟨_, _, _, _, _, _, _, ee, _⟩ := h; subst ee; rfl) | (obtain ⟨_, _, _, _, _, _, _, _, ee, _⟩ := h; subst ee; rfl) | (obtain ⟨_, _, _, _, _, _, _, _, _, ee, _⟩ := h; subst ee; rfl) | (obtain ⟨_, _, _, _, _, _, _, _, _, _, ee, _⟩ := h; subst ee; rfl)))
namespace Hj
open PySem PySem.Spec L2
/-! ### the strict writing is one of the writings -/
mutual
theorem strS : ∀ s : Stm, WrS false s (wS s)
  | .join x y => by simp only [wS]; exact .join
  | .clear g => by simp only [wS]; exact .clear
  | .each v b => by simp only [wS]; exact .each (strO b)
  | .ite t b o => by rw [wS_ite]; exact .ite (strO b) (strE o)
  | .wh t b => by
    simp only [wS]
    cases hn : t.neg with
    | true => simp only [if_true, List.cons_append]; exact .un hn (strO b)
    | false => simp only [Bool.false_eq_true, if_false, List.cons_append]; exact .wh hn (strO b)
theorem strE : ∀ o : List Stm, WrE false o (wElse o)
  | [] => .none
  | s :: r => .some (by simp) (strO (s :: r))
theorem strO : ∀ o : List Stm, WrO false o (wO o)
  | [] => by simp only [wO]; exact .nil
  | s :: r => by simp only [wO]; exact .cons (strS s) (strO r)
end
theorem wO_clean {sc : List Str} {o : List Stm} (hs : ∀ z ∈ sc, isVar z = true) (h : okO sc o) : (∀ w ∈ wO o, clean w) ∧ (wO o).length ≤ 9 * cntO o := wrO_clean (strO o) hs h
theorem wElse_len {sc : List Str} {o : List Stm} (hs : ∀ z ∈ sc, isVar z = true) (h : okO sc o) : (wElse o).length ≤ 9 * cntO o + 1 := (wrE_clean (strE o) hs h).2
section
variable {P : Program} {w : World} {K : PySem.W.Frag} {mg : Str → Option Value} {base : Heap}
/-! ### words_of_test -/
theorem sc_words_of_test : FnScope ["test"] ["test"] (defScope s_words_of_test) := ⟨rfl, rfl, rfl, by decide +kernel, rfl, by decide +kernel, by decide +kernel⟩
theorem ok_words_of_test {f : Addr} {fd : FuncData} (F : Fun K "words_of_test" "words_of_test" s_words_of_test f fd) (T : Txt P K mg) : FnOk P w K mg base CX0 1 f fd ["test"] (spTW K) := by
  refine F.ok sc_words_of_test ?_ (fun cdv A outer s H vs Q E hr0 h => ?_)
  · walk_at "len"
  obtain ⟨v, t, rfl, dt, tn, q⟩ := h
  obtain ⟨p, rfl, ⟨hn, h1⟩ | ⟨hn, p2, h1, h2⟩⟩ := dT_view dt
  · refine ⟨_, (pss_cons (ps_if (pt_cmpR op_eq (pe_ix ix_seq (pv 0) pe_int (fun _ _ => rfl)) pe_str (nomark _)) (pss_one (ps_ret (pe_op opAdd (pe_lst (pa_cons pe_str pa_nil)) (pe_callTy call_lstOf (by rfl) T.zlist (by decide +kernel) (pa_cons (pe_ix ix_seq (pv 0) pe_int (fun _ _ => rfl)) pa_nil))))) pss_nil) (pss_one (ps_ret (pe_callTy call_lstOf (by rfl) T.zlist (by decide +kernel) (pa_cons (pv 0) pa_nil))))), ?_⟩
    walk_at "cl"
    walk_at "rk"
    refine r_ixT h1 (atI_nat (j := 0) rfl) ?_
    walk_at "rk"
    refine r_F (decide_eq_false tn) ?_
    walk_at "rk"
    refine r_lstOfTK h1 fun p3 H3 n3 k3 e3 => ?_
    have e : wT t = [t.w, t.x, t.y] := by simp [wT, hn]
    rw [e] at q
    exact q p3 H3 n3 k3 e3
  · refine ⟨_, (pss_cons (ps_if (pt_cmpR op_eq (pe_ix ix_seq (pv 0) pe_int (fun _ _ => rfl)) pe_str (nomark _)) (pss_one (ps_ret (pe_op opAdd (pe_lst (pa_cons pe_str pa_nil)) (pe_callTy call_lstOf (by rfl) T.zlist (by decide +kernel) (pa_cons (pe_ix ix_seq (pv 0) pe_int (fun _ _ => rfl)) pa_nil))))) pss_nil) (pss_one (ps_ret (pe_callTy call_lstOf (by rfl) T.zlist (by decide +kernel) (pa_cons (pv 0) pa_nil))))), ?_⟩
    walk_at "cl"
    walk_at "rk"
    refine r_ixT h1 (atI_nat (j := 0) rfl) ?_
    walk_at "rk"
    refine r_T (by decide +kernel) ?_
    walk_at "rk"
    refine r_newL (by simp) fun p3 H3 n3 k3 e3 => ?_
    walk_at "rk"
    refine r_ixT (k3.sqT h1) (atI_nat (j := 1) rfl) ?_
    walk_at "rk"
    refine r_lstOfTK (k3.sqT h2) fun p4 H4 n4 k4 e4 => ?_
    walk_at "rk"
    have e : wT t = [kNot] ++ [t.w, t.x, t.y] := by simp [wT, hn]
    rw [e] at q
    refine r_catK (us := [kNot]) (vs := [t.w, t.x, t.y]) (k4.get e3 (by simp)) e4 (by simp) fun p5 H5 n5 k5 e5 => ?_
    exact q p5 H5 ((k3.trans k4).free0 n5) ((k3.trans k4).trans k5) e5
/-! ### block_words, statement_words, order_words -/
def spWO (K : PySem.W.Frag) (n : Nat) : Sp := fun vs H Q _ => ∃ (v : V) (o : List Stm) (sc : List Str), vs = [v] ∧ Dp K H v (dO o) ∧ okO sc o ∧ (∀ z ∈ sc, isVar z = true) ∧ cntO o ≤ 12 ∧ depO o ≤ n ∧ ∀ (p : Addr) (H' : Hp), H p = none → Kp [] H H' → H' p = some (.lst ((wO o).map V.str)) → Q (.ref p) H'
def spWB (K : PySem.W.Frag) (n : Nat) : Sp := fun vs H Q _ => ∃ (ph : Addr) (hs : List Str) (u v : V) (b o : List Stm) (sc sc2 : List Str), vs = [.ref ph, u, v] ∧ H ph = some (.lst (hs.map V.str)) ∧ hs.length ≤ 10 ∧ Dp K H u (dO b) ∧ Dp K H v (dO o) ∧ okO sc b ∧ okO sc2 o ∧ (∀ z ∈ sc, isVar z = true) ∧ (∀ z ∈ sc2, isVar z = true) ∧ cntO b ≤ 12 ∧ cntO o ≤ 12 ∧ depO b ≤ n ∧ depO o ≤ n ∧
  ∀ (p : Addr) (H' : Hp), H p = none → Kp [] H H' → H' p = some (.lst ((hs ++ (kDo :: (wO b ++ (wElse o ++ [kEnd])))).map V.str)) → Q (.ref p) H'
def spWS (K : PySem.W.Frag) (n : Nat) : Sp := fun vs H Q _ => ∃ (v : V) (t : Stm) (sc : List Str), vs = [v] ∧ Dp K H v (dS t) ∧ okS sc t ∧ (∀ z ∈ sc, isVar z = true) ∧ cntS t ≤ 12 ∧ depS t ≤ n ∧ ∀ (p : Addr) (H' : Hp), H p = none → Kp [] H H' → H' p = some (.lst ((wS t).map V.str)) → Q (.ref p) H'
theorem sc_block_words : FnScope ["head", "body", "other", "words"] ["head", "body", "other"] (defScope s_block_words) := ⟨rfl, rfl, rfl, by decide +kernel, rfl, by decide +kernel, by decide +kernel⟩
theorem ok_block_words {k n : Nat} {f : Addr} {fd : FuncData} (F : Fun K "block_words" "block_words" s_block_words f fd) (T : Txt P K mg) (D_order_words : Dn P w K mg base CX0 k "order_words" ["order"] (spWO K n)) : FnOk P w K mg base CX0 (k + 1) f fd ["head", "body", "other"] (spWB K n) := by
  refine F.ok sc_block_words ?_ (fun cdv A outer s H vs Q E hr0 h => ?_)
  · walk_at "len"
  obtain ⟨ph, hs, u, v, b, o, sc, sc2, rfl, eh, lh, du, dv, okb, oko, hsc, hsc2, cb, co, db, do_, q⟩ := h
  have lb := (wO_clean hsc okb).2
  have lo := (wO_clean hsc2 oko).2
  refine ⟨_, (pss_cons (ps_set (i := 3) sc_block_words.nd rfl (Or.inl rfl) (pe_op opAdd (pe_op opAdd (pv 0) (pe_lst (pa_cons pe_str pa_nil))) (pe_d D_order_words hr0 pass0 (pa_cons (pv 1) pa_nil)))) (Evl.pss_cut (ps_if (pt_cmpR op_gt (pe_callB call_lenA (by rfl) T.zlen (by decide +kernel) (pa_cons (pv 2) pa_nil)) pe_int (nomark _)) (pss_one (ps_set (i := 3) sc_block_words.nd rfl (Or.inl rfl) (pe_op opAdd (pe_op opAdd (pv 3) (pe_lst (pa_cons pe_str pa_nil))) (pe_d D_order_words hr0 pass0 (pa_cons (pv 2) pa_nil))))) pss_nil) (pss_one (ps_ret (pe_op opAdd (pv 3) (pe_lst (pa_cons pe_str pa_nil))))))), ?_⟩
  walk_at "cl"
  walk_at "rk"
  refine r_newL (by simp) fun p1 H1 n1 k1 e1 => ?_
  refine r_catK (us := hs) (vs := [kDo]) (k1.get eh (by simp)) e1 (by simp; omega) fun p2 H2 n2 k2 e2 => ?_
  have K2 := k1.trans k2
  walk_at "rk"
  refine ⟨u, b, sc, rfl, dp_keep K2 _ _ (flat_O b) du, okb, hsc, cb, db, fun p3 H3 n3 k3 e3 => ?_⟩
  walk_at "rk"
  refine r_catK (us := hs ++ [kDo]) (vs := wO b) (k3.get e2 (by simp)) e3 (by simp; omega) fun p4 H4 n4 k4 e4 => ?_
  have K4 := (K2.trans k3).trans k4
  walk_at "rk"
  refine r_cut (fun σ' H' => ∃ p5, σ' = [some (.ref ph), some u, some v, some (.ref p5)] ∧ H' p5 = some (.lst ((hs ++ [kDo] ++ wO b ++ wElse o).map V.str)) ∧ Kp [] H4 H') ?_ ?_
  · obtain ⟨pv, xs, rfl, hx, dx⟩ := dp_tupI (dp_keep K4 _ _ (flat_O o) dv)
    have lx : xs.length = o.length := by rw [DpAll.len dx, dL_len]
    walk_at "rk"
    refine r_lenT hx ?_
    walk_at "rk"
    rw [lx]
    cases o with
    | nil =>
      refine r_F (by simp) ?_
      walk_at "rk"
      exact ⟨p4, rfl, by rw [e4]; simp [wElse], .refl⟩
    | cons s0 r0 =>
      refine r_T (by simp) ?_
      walk_at "rk"
      refine r_newL (by simp) fun p5 H5 n5 k5 e5 => ?_
      refine r_catK (us := hs ++ [kDo] ++ wO b) (vs := [kElse]) (k5.get e4 (by simp)) e5 (by simp; omega) fun p6 H6 n6 k6 e6 => ?_
      walk_at "rk"
      refine ⟨.ref pv, s0 :: r0, sc2, rfl, dp_keep (k5.trans k6) _ _ (flat_O _) (.tup hx dx), oko, hsc2, co, do_, fun p7 H7 n7 k7 e7 => ?_⟩
      walk_at "rk"
      refine r_catK (us := hs ++ [kDo] ++ wO b ++ [kElse]) (vs := wO (s0 :: r0)) (k7.get e6 (by simp)) e7 (by simp; omega) fun p8 H8 n8 k8 e8 => ?_
      exact ⟨p8, rfl, by rw [e8]; simp [wElse], ((k5.trans k6).trans k7).trans k8⟩
  · rintro σ' H5 ⟨p5, rfl, e5, k5⟩
    have le := wElse_len hsc2 oko
    walk_at "rk"
    refine r_newL (by simp) fun p6 H6 n6 k6 e6 => ?_
    refine r_catK (us := hs ++ [kDo] ++ wO b ++ wElse o) (vs := [kEnd]) (k6.get e5 (by simp)) e6 (by simp; omega) fun p7 H7 n7 k7 e7 => ?_
    refine q p7 H7 (((K4.trans k5).trans k6).free0 n7) (((K4.trans k5).trans k6).trans k7) ?_
    rw [e7]
    simp
theorem sc_statement_words : FnScope ["statement", "word", "test"] ["statement"] (defScope s_statement_words) := ⟨rfl, rfl, rfl, by decide +kernel, rfl, by decide +kernel, by decide +kernel⟩
theorem ok_statement_words {k n : Nat} (hk : 1 ≤ k) {spB : Sp} {f : Addr} {fd : FuncData} (F : Fun K "statement_words" "statement_words" s_statement_words f fd) (T : Txt P K mg) (D_words_of_test : Dn P w K mg base CX0 k "words_of_test" ["test"] (spTW K)) (D_block_words : Dn P w K mg base CX0 k "block_words" ["head", "body", "other"] spB)
    (hB : ∀ m, n = m + 1 → ∀ vs H Q E, spWB K m vs H Q E → spB vs H Q E) : FnOk P w K mg base CX0 (k + 1) f fd ["statement"] (spWS K n) := by
  refine F.ok sc_statement_words ?_ (fun cdv A outer s H vs Q E hr0 h => ?_)
  · walk_at "len"
  obtain ⟨v, t, sc, rfl, dv, okt, hsc, ct, dt, q⟩ := h
  refine ⟨_, (pss_cons (ps_set (i := 1) sc_statement_words.nd rfl (Or.inl rfl) (pe_ix ix_seq (pv 0) pe_int (fun _ _ => rfl))) (pss_cons (ps_if (pt_cmpR op_eq (pv 1) pe_str (nomark _)) (pss_one (ps_ret (pe_d D_block_words hr0 pass0 (pa_cons (pe_op opAdd (pe_lst (pa_cons pe_str pa_nil)) (pe_d D_words_of_test hr0 pass0 (pa_cons (pe_ix ix_seq (pv 0) pe_int (fun _ _ => rfl)) pa_nil))) (pa_cons (pe_ix ix_seq (pv 0) pe_int (fun _ _ => rfl)) (pa_cons (pe_ix ix_seq (pv 0) pe_int (fun _ _ => rfl)) pa_nil)))))) pss_nil) (pss_cons (ps_if (pt_cmpR op_eq (pv 1) pe_str (nomark _)) (pss_cons (ps_set (i := 2) sc_statement_words.nd rfl (Or.inl rfl) (pe_ix ix_seq (pv 0) pe_int (fun _ _ => rfl))) (pss_cons (ps_if (pt_cmpR op_eq (pe_ix ix_seq (pv 2) pe_int (fun _ _ => rfl)) pe_str (nomark _)) (pss_one (ps_ret (pe_d D_block_words hr0 pass0 (pa_cons (pe_op opAdd (pe_lst (pa_cons pe_str pa_nil)) (pe_d D_words_of_test hr0 pass0 (pa_cons (pe_ix ix_seq (pv 2) pe_int (fun _ _ => rfl)) pa_nil))) (pa_cons (pe_ix ix_seq (pv 0) pe_int (fun _ _ => rfl)) (pa_cons (pe_tup pa_nil) pa_nil)))))) pss_nil) (pss_one (ps_ret (pe_d D_block_words hr0 pass0 (pa_cons (pe_op opAdd (pe_lst (pa_cons pe_str pa_nil)) (pe_d D_words_of_test hr0 pass0 (pa_cons (pv 2) pa_nil))) (pa_cons (pe_ix ix_seq (pv 0) pe_int (fun _ _ => rfl)) (pa_cons (pe_tup pa_nil) pa_nil)))))))) pss_nil) (pss_cons (ps_if (pt_cmpR op_eq (pv 1) pe_str (nomark _)) (pss_one (ps_ret (pe_d D_block_words hr0 pass0 (pa_cons (pe_lst (pa_cons pe_str (pa_cons (pe_ix ix_seq (pv 0) pe_int (fun _ _ => rfl)) pa_nil))) (pa_cons (pe_ix ix_seq (pv 0) pe_int (fun _ _ => rfl)) (pa_cons (pe_tup pa_nil) pa_nil)))))) pss_nil) (pss_one (ps_ret (pe_callTy call_lstOf (by rfl) T.zlist (by decide +kernel) (pa_cons (pv 0) pa_nil)))))))), ?_⟩
  walk_at "cl"
  walk_at "rk"
  cases t with
  | join x y =>
    simp only [dS] at dv
    obtain ⟨px, ys, rfl, hy, dy⟩ := dp_tupI dv
    obtain rfl := dps_str3 dy
    refine r_ixT hy (atI_nat (j := 0) rfl) ?_
    walk_at "rk"
    refine r_F (by decide +kernel) ?_
    walk_at "rk"
    refine r_F (by decide +kernel) ?_
    walk_at "rk"
    refine r_F (by decide +kernel) ?_
    walk_at "rk"
    refine r_lstOfTK hy fun p3 H3 n3 k3 e3 => ?_
    exact q p3 H3 n3 k3 (by rw [e3]; simp only [wS]; rfl)
  | clear x =>
    simp only [dS] at dv
    obtain ⟨px, ys, rfl, hy, dy⟩ := dp_tupI dv
    obtain ⟨y1, ys, rfl, d1, dy⟩ := dps_consI dy
    obtain ⟨y2, ys, rfl, d2, dy⟩ := dps_consI dy
    obtain rfl := dps_nilI dy
    obtain rfl := dp_strI d1
    obtain rfl := dp_strI d2
    refine r_ixT hy (atI_nat (j := 0) rfl) ?_
    walk_at "rk"
    refine r_F (by decide +kernel) ?_
    walk_at "rk"
    refine r_F (by decide +kernel) ?_
    walk_at "rk"
    refine r_F (by decide +kernel) ?_
    walk_at "rk"
    refine r_lstOfTK hy fun p3 H3 n3 k3 e3 => ?_
    exact q p3 H3 n3 k3 (by rw [e3]; simp only [wS]; rfl)
  | each u b =>
    simp only [dS] at dv
    obtain ⟨px, ys, rfl, hy, dy⟩ := dp_tupI dv
    obtain ⟨y1, ys, rfl, d1, dy⟩ := dps_consI dy
    obtain ⟨y2, ys, rfl, d2, dy⟩ := dps_consI dy
    obtain ⟨y3, ys, rfl, d3, dy⟩ := dps_consI dy
    obtain rfl := dps_nilI dy
    obtain rfl := dp_strI d1
    obtain rfl := dp_strI d2
    simp only [okS] at okt
    simp only [cntS] at ct
    simp only [depS] at dt
    obtain ⟨m, rfl⟩ : ∃ m, n = m + 1 := ⟨n - 1, by omega⟩
    replace hB := hB m rfl
    refine r_ixT hy (atI_nat (j := 0) rfl) ?_
    walk_at "rk"
    refine r_F (by decide +kernel) ?_
    walk_at "rk"
    refine r_F (by decide +kernel) ?_
    walk_at "rk"
    refine r_T (by decide +kernel) ?_
    walk_at "rk"
    refine r_ixT hy (atI_nat (j := 1) rfl) ?_
    walk_at "rk"
    refine r_newL (by simp) fun p3 H3 n3 k3 e3 => ?_
    walk_at "rk"
    refine r_ixT (k3.sqT hy) (atI_nat (j := 2) rfl) ?_
    walk_at "rk"
    refine r_newT (by simp) fun p4 H4 n4 k4 e4 => ?_
    have K4 := k3.trans k4
    refine hB _ _ _ _ ⟨p3, [kEach, u], y3, .ref p4, b, [], u :: sc, [], rfl, k4.get e3 (by simp), by simp, dp_keep K4 _ _ (flat_O b) d3, dp_tup e4 .nil, okt.2, by simp only [okO], ?_, by simp, by omega, by simp [cntO], by omega, by simp [depO], fun p5 H5 n5 k5 e5 => ?_⟩
    · intro z hz
      rcases List.mem_cons.mp hz with e | e
      · rw [e]; exact okt.1
      · exact hsc z e
    refine q p5 H5 (K4.free0 n5) (K4.trans k5) ?_
    rw [e5]
    simp [wS, wElse]
  | ite t b o =>
    simp only [dS] at dv
    obtain ⟨px, ys, rfl, hy, dy⟩ := dp_tupI dv
    obtain ⟨y1, ys, rfl, d1, dy⟩ := dps_consI dy
    obtain ⟨y2, ys, rfl, d2, dy⟩ := dps_consI dy
    obtain ⟨y3, ys, rfl, d3, dy⟩ := dps_consI dy
    obtain ⟨y4, ys, rfl, d4, dy⟩ := dps_consI dy
    obtain rfl := dps_nilI dy
    obtain rfl := dp_strI d1
    simp only [okS] at okt
    simp only [cntS] at ct
    simp only [depS] at dt
    obtain ⟨m, rfl⟩ : ∃ m, n = m + 1 := ⟨n - 1, by omega⟩
    replace hB := hB m rfl
    have tl := wT_len t
    refine r_ixT hy (atI_nat (j := 0) rfl) ?_
    walk_at "rk"
    refine r_T (by decide +kernel) ?_
    walk_at "rk"
    refine r_newL (by simp) fun p3 H3 n3 k3 e3 => ?_
    walk_at "rk"
    refine r_ixT (k3.sqT hy) (atI_nat (j := 1) rfl) ?_
    walk_at "rk"
    refine ⟨y2, t, rfl, dp_keep k3 _ _ (flat_T t) d2, tog_w okt.1, fun p4 H4 n4 k4 e4 => ?_⟩
    walk_at "rk"
    refine r_catK (us := [kIf]) (vs := wT t) (k4.get e3 (by simp)) e4 (by simp; omega) fun p5 H5 n5 k5 e5 => ?_
    have K5 := (k3.trans k4).trans k5
    walk_at "rk"
    refine r_ixT (K5.sqT hy) (atI_nat (j := 2) rfl) ?_
    walk_at "rk"
    refine r_ixT (K5.sqT hy) (atI_nat (j := 3) rfl) ?_
    walk_at "rk"
    refine hB _ _ _ _ ⟨p5, [kIf] ++ wT t, y3, y4, b, o, sc, sc, rfl, e5, by simp; omega, dp_keep K5 _ _ (flat_O b) d3, dp_keep K5 _ _ (flat_O o) d4, okt.2.1, okt.2.2, hsc, hsc, by omega, by omega, by omega, by omega, fun p6 H6 n6 k6 e6 => ?_⟩
    refine q p6 H6 (K5.free0 n6) (K5.trans k6) ?_
    rw [e6, wS_ite]
    simp
  | wh t b =>
    simp only [dS] at dv
    obtain ⟨px, ys, rfl, hy, dy⟩ := dp_tupI dv
    obtain ⟨y1, ys, rfl, d1, dy⟩ := dps_consI dy
    obtain ⟨y2, ys, rfl, d2, dy⟩ := dps_consI dy
    obtain ⟨y3, ys, rfl, d3, dy⟩ := dps_consI dy
    obtain rfl := dps_nilI dy
    obtain rfl := dp_strI d1
    simp only [okS] at okt
    simp only [cntS] at ct
    simp only [depS] at dt
    obtain ⟨m, rfl⟩ : ∃ m, n = m + 1 := ⟨n - 1, by omega⟩
    replace hB := hB m rfl
    have tl := wT_len t
    have tl2 := wT_len (opp t)
    refine r_ixT hy (atI_nat (j := 0) rfl) ?_
    walk_at "rk"
    refine r_F (by decide +kernel) ?_
    walk_at "rk"
    refine r_T (by decide +kernel) ?_
    walk_at "rk"
    refine r_ixT hy (atI_nat (j := 1) rfl) ?_
    walk_at "rk"
    obtain ⟨pt, rfl, ⟨hn, h1⟩ | ⟨hn, pt2, h1, h2⟩⟩ := dT_view d2
    · refine r_ixT h1 (atI_nat (j := 0) rfl) ?_
      walk_at "rk"
      refine r_F (decide_eq_false (tog_w okt.1)) ?_
      walk_at "rk"
      refine r_newL (by simp) fun p3 H3 n3 k3 e3 => ?_
      walk_at "rk"
      refine ⟨.ref pt, t, rfl, dT_plain hn (k3.sqT h1), tog_w okt.1, fun p4 H4 n4 k4 e4 => ?_⟩
      walk_at "rk"
      refine r_catK (us := [kWhile]) (vs := wT t) (k4.get e3 (by simp)) e4 (by simp; omega) fun p5 H5 n5 k5 e5 => ?_
      have K5 := (k3.trans k4).trans k5
      walk_at "rk"
      refine r_ixT (K5.sqT hy) (atI_nat (j := 2) rfl) ?_
      walk_at "rk"
      refine r_newT (by simp) fun p6 H6 n6 k6 e6 => ?_
      have K6 := K5.trans k6
      refine hB _ _ _ _ ⟨p5, [kWhile] ++ wT t, y3, .ref p6, b, [], sc, [], rfl, k6.get e5 (by simp), by simp; omega, dp_keep K6 _ _ (flat_O b) d3, dp_tup e6 .nil, okt.2, by simp only [okO], hsc, by simp, by omega, by simp [cntO], by omega, by simp [depO], fun p7 H7 n7 k7 e7 => ?_⟩
      refine q p7 H7 (K6.free0 n7) (K6.trans k7) ?_
      rw [e7]
      simp [wS, wElse, hn]
    · refine r_ixT h1 (atI_nat (j := 0) rfl) ?_
      walk_at "rk"
      refine r_T (by decide +kernel) ?_
      walk_at "rk"
      refine r_newL (by simp) fun p3 H3 n3 k3 e3 => ?_
      walk_at "rk"
      refine r_ixT (k3.sqT h1) (atI_nat (j := 1) rfl) ?_
      walk_at "rk"
      refine ⟨.ref pt2, opp t, rfl, dT_plain (by simp [opp, hn]) (k3.sqT h2), tog_w okt.1, fun p4 H4 n4 k4 e4 => ?_⟩
      walk_at "rk"
      refine r_catK (us := [kUntil]) (vs := wT (opp t)) (k4.get e3 (by simp)) e4 (by simp; omega) fun p5 H5 n5 k5 e5 => ?_
      have K5 := (k3.trans k4).trans k5
      walk_at "rk"
      refine r_ixT (K5.sqT hy) (atI_nat (j := 2) rfl) ?_
      walk_at "rk"
      refine r_newT (by simp) fun p6 H6 n6 k6 e6 => ?_
      have K6 := K5.trans k6
      refine hB _ _ _ _ ⟨p5, [kUntil] ++ wT (opp t), y3, .ref p6, b, [], sc, [], rfl, k6.get e5 (by simp), by simp; omega, dp_keep K6 _ _ (flat_O b) d3, dp_tup e6 .nil, okt.2, by simp only [okO], hsc, by simp, by omega, by simp [cntO], by omega, by simp [depO], fun p7 H7 n7 k7 e7 => ?_⟩
      refine q p7 H7 (K6.free0 n7) (K6.trans k7) ?_
      rw [e7]
      simp [wS, wElse, hn]
theorem sc_order_words : FnScope ["order", "words", "statement"] ["order"] (defScope s_order_words) := ⟨rfl, rfl, rfl, by decide +kernel, rfl, by decide +kernel, by decide +kernel⟩
theorem ok_order_words {k n : Nat} {f : Addr} {fd : FuncData} (F : Fun K "order_words" "order_words" s_order_words f fd) (T : Txt P K mg) (D_statement_words : Dn P w K mg base CX0 k "statement_words" ["statement"] (spWS K n)) : FnOk P w K mg base CX0 (k + 1) f fd ["order"] (spWO K n) := by
  refine F.ok sc_order_words ?_ (fun cdv A outer s H vs Q E hr0 h => ?_)
  · walk_at "len"
  obtain ⟨v, o, sc, rfl, d0, ok0, hsc, hcn, hdp, q⟩ := h
  obtain ⟨po, xs, rfl, hx, dx⟩ := dp_tupI d0
  refine ⟨_, (pss_cons (ps_set (i := 1) sc_order_words.nd rfl (Or.inl rfl) (pe_lst pa_nil)) (pss_cons (ps_for PassesOwn.never rfl (pi_tup (pv 0)) (pg_name (i := 2) sc_order_words.nd rfl (Or.inl rfl)) (pss_one (ps_expr (pe_bm PySem.F.plainAttrs_list PySem.F.slot_list_extend PySem.F.type_list_extend mt_extend (pv 1) (pa_cons (pe_d D_statement_words hr0 pass0 (pa_cons (pv 2) pa_nil)) pa_nil))))) (pss_one (ps_ret (pv 1))))), ?_⟩
  walk_at "cl"
  walk_at "rk"
  refine r_newL (by simp) fun pm H1 n1 k1 e1 => ?_
  walk_at "rk"
  refine r_itTE (k1.sqT hx) ?_
  refine for_tup (K := K) (a := po) (xs := xs) (fun i σ' H' => ∃ o2, σ' = [some (.ref po), some (.ref pm), o2] ∧ H' pm = some (.lst ((wO (o.take i)).map V.str)) ∧ Kp [] H H') ⟨_, rfl, by rw [e1]; simp [wO], k1⟩ (fun i σ' H' _ ⟨_, _, _, k⟩ => k.sqT hx) ?_ ?_
  · rintro i x σ' H2 hi ⟨o2, rfl, e2, k2⟩
    obtain ⟨d, hd, dx2⟩ := DpAll.get dx hi
    obtain ⟨t, ht, rfl⟩ := dL_get hd
    obtain ⟨okt, cnt, dpt⟩ := ok_get ok0 ht
    have l1 := (wO_clean hsc (okO_take ok0 i)).2
    have l2 := cntO_take o i
    have l3 := (wrS_clean (strS t) hsc okt).2
    walk_at "rk"
    refine r_tyL (SqL.of e2) ?_
    walk_at "rk"
    refine ⟨x, t, sc, rfl, dp_keep k2 _ _ (flat_S t) dx2, okt, hsc, by omega, by omega, fun p3 H3 n3 k3 e3 => ?_⟩
    have np : pm ≠ p3 := ne_of_none e2 n3
    walk_at "rk"
    refine r_extK (k3.get e2 (by simp)) e3 (by rw [List.length_map, List.length_map]; omega) fun H4 k4 e4 => ?_
    refine ⟨_, rfl, ?_, (k2.trans k3).young k4 fun b hb => by rw [List.mem_singleton.mp hb]; exact n1⟩
    rw [e4, take_get ht, wO_app, List.map_append]
    simp [wO]
  · rintro σ' H2 ⟨o2, rfl, e2, k2⟩
    walk_at "rk"
    have e : o.take xs.length = o := List.take_of_length_le (by rw [DpAll.len dx, dL_len]; exact Nat.le_refl _)
    rw [e] at e2
    exact q pm H2 n1 k2 e2
/-! ### format_order -/
def spFmt (K : PySem.W.Frag) : Sp := fun vs H Q _ => ∃ (v : V) (o : List Stm) (sc : List Str), vs = [v] ∧ Dp K H v (dO o) ∧ okO sc o ∧ (∀ z ∈ sc, isVar z = true) ∧ cntO o ≤ 12 ∧ depO o ≤ 3 ∧ ∀ (H' : Hp), Kp [] H H' → Q (.str (Txt.join kSp (wO o))) H'
theorem sc_format_order : FnScope ["order"] ["order"] (defScope s_format_order) := ⟨rfl, rfl, rfl, by decide +kernel, rfl, by decide +kernel, by decide +kernel⟩
theorem ok_format_order {k : Nat} {f : Addr} {fd : FuncData} (F : Fun K "format_order" "format_order" s_format_order f fd) (T : Txt P K mg) (D_order_words : Dn P w K mg base CX0 k "order_words" ["order"] (spWO K 3)) : FnOk P w K mg base CX0 (k + 1) f fd ["order"] (spFmt K) := by
  refine F.ok sc_format_order ?_ (fun cdv A outer s H vs Q E hr0 h => ?_)
  · walk_at "len"
  obtain ⟨v, o, sc, rfl, d0, ok0, hsc, hcn, hdp, q⟩ := h
  obtain ⟨c1, c2⟩ := wO_clean hsc ok0
  have c3 := sumL_le (B := 8) fun y hy => (c1 y hy).1.2
  refine ⟨_, (pss_one (ps_ret (pe_join pe_str (pe_d D_order_words hr0 pass0 (pa_cons (pv 0) pa_nil))))), ?_⟩
  walk_at "cl"
  walk_at "rk"
  refine ⟨v, o, sc, rfl, d0, ok0, hsc, hcn, hdp, fun p1 H1 n1 k1 e1 => ?_⟩
  refine r_joinL (SqL.of e1) (by omega) ?_
  exact q H1 k1
end
end Hj
end
section
set_option Elab.async false
set_option linter.all false
set_option maxRecDepth 100000
set_option maxHeartbeats 16000000
local macro_rules | `(tactic| walk_at "rd") => `(tactic| repeat (first
  | with_reducible refine Hj.r_seq ?_
  | with_reducible refine Hj.r_nx ?_
  | with_reducible refine Hj.r_rt ?_
  | with_reducible refine L2.iteT ?_
  | with_reducible refine L2.iteF ?_
  | with_reducible refine Hj.r_set ?_
  | with_reducible refine Hj.r_gname ?_
  | with_reducible refine Hj.r_if ?_
  | with_reducible refine Hj.r_ret ?_
  | ((with_reducible show L2.tVar _ _ _ _); refine Hj.r_var rfl ?_)
  | with_reducible refine Hj.r_c ?_
  | with_reducible refine Hj.r_cons ?_
  | with_reducible refine Hj.r_nil ?_
  | with_reducible refine Hj.r_op ?_
  | with_reducible refine Hj.r_test ?_
  | with_reducible refine Hj.r_B ?_
  | with_reducible refine Hj.r_cb ?_
  | with_reducible refine Hj.r_blV ?_
  | with_reducible refine Hj.r_and ?_
  | with_reducible refine Hj.r_or ?_
  | with_reducible refine Hj.r_not ?_
  | with_reducible refine Hj.r_call ?_
  | with_reducible refine Hj.r_tup ?_
  | with_reducible refine Hj.r_lst ?_
  | with_reducible refine Hj.r_eqS ?_
  | with_reducible refine Hj.r_eqI ?_
  | with_reducible refine Hj.r_neS ?_
  | with_reducible refine Hj.r_neI ?_
  | with_reducible refine Hj.r_isN ?_
  | with_reducible refine Hj.r_I0 ?_
  | with_reducible refine Hj.r_addI ?_
  | with_reducible refine Hj.r_intOf ?_
  | with_reducible refine Hj.r_mx ?_
  | with_reducible refine Hj.r_un ?_
  | with_reducible refine Hj.r_neg ?_
  | with_reducible refine Hj.r_drop ?_
  | with_reducible refine Hj.r_next ?_
  | with_reducible refine Hj.r_retN ?_
  | with_reducible refine Hj.r_sub ?_
  | with_reducible refine Hj.r_asg ?_
  | with_reducible refine Hj.r_bm ?_
  | with_reducible refine Hj.r_bm0 ?_
  | with_reducible refine Hj.r_meth ?_
  | with_reducible refine Hj.r_make ?_
  | with_reducible refine Hj.r_fldK ?_
  | with_reducible refine Hj.r_setK ?_
  | with_reducible refine Hj.r_sl ?_
  | with_reducible refine Hj.r_no ?_
  | with_reducible refine Hj.r_mkB ?_
  | with_reducible refine Hj.r_chain ?_
  | with_reducible refine Hj.r_leS ?_
  | with_reducible refine Hj.r_mkM ?_
  | with_reducible refine Hj.r_part ?_
  | with_reducible refine Hj.r_partI ?_
  | with_reducible refine Hj.r_m1 ?_
  | with_reducible refine Hj.r_strs ?_
  | with_reducible refine Hj.r_andV ?_
  | with_reducible refine Hj.r_orV ?_
  | with_reducible refine Hj.r_notV ?_
  | with_reducible refine Hj.r_for ?_
  | with_reducible refine Hj.r_rng ?_
  | with_reducible refine Hj.r_itL ?_
  | with_reducible refine Hj.r_itT ?_
  | with_reducible refine Hj.r_itS ?_
  | with_reducible refine Hj.r_itSE ?_))
local macro_rules | `(tactic| walk_at "rk") => `(tactic| repeat (first
  | with_reducible refine Hj.r_seq ?_
  | with_reducible refine Hj.r_nx ?_
  | with_reducible refine Hj.r_rt ?_
  | with_reducible refine L2.iteT ?_
  | with_reducible refine L2.iteF ?_
  | with_reducible refine Hj.r_set ?_
  | with_reducible refine Hj.r_gname ?_
  | with_reducible refine Hj.r_if ?_
  | with_reducible refine Hj.r_ret ?_
  | ((with_reducible show L2.tVar _ _ _ _); refine Hj.r_var rfl ?_)
  | with_reducible refine Hj.r_c ?_
  | with_reducible refine Hj.r_cons ?_
  | with_reducible refine Hj.r_nil ?_
  | with_reducible refine Hj.r_op ?_
  | with_reducible refine Hj.r_test ?_
  | with_reducible refine Hj.r_B ?_
  | with_reducible refine Hj.r_cb ?_
  | with_reducible refine Hj.r_blV ?_
  | with_reducible refine Hj.r_and ?_
  | with_reducible refine Hj.r_or ?_
  | with_reducible refine Hj.r_not ?_
  | with_reducible refine Hj.r_call ?_
  | with_reducible refine Hj.r_tupK ?_
  | with_reducible refine Hj.r_lstK ?_
  | with_reducible refine Hj.r_eqS ?_
  | with_reducible refine Hj.r_eqI ?_
  | with_reducible refine Hj.r_neS ?_
  | with_reducible refine Hj.r_neI ?_
  | with_reducible refine Hj.r_isN ?_
  | with_reducible refine Hj.r_I0 ?_
  | with_reducible refine Hj.r_addI ?_
  | with_reducible refine Hj.r_intOf ?_
  | with_reducible refine Hj.r_mx ?_
  | with_reducible refine Hj.r_un ?_
  | with_reducible refine Hj.r_neg ?_
  | with_reducible refine Hj.r_drop ?_
  | with_reducible refine Hj.r_next ?_
  | with_reducible refine Hj.r_retN ?_
  | with_reducible refine Hj.r_sub ?_
  | with_reducible refine Hj.r_asg ?_
  | with_reducible refine Hj.r_bm ?_
  | with_reducible refine Hj.r_bm0 ?_
  | with_reducible refine Hj.r_meth ?_
  | with_reducible refine Hj.r_make ?_
  | with_reducible refine Hj.r_fldK ?_
  | with_reducible refine Hj.r_setK ?_
  | with_reducible refine Hj.r_sl ?_
  | with_reducible refine Hj.r_no ?_
  | with_reducible refine Hj.r_mkB ?_
  | with_reducible refine Hj.r_chain ?_
  | with_reducible refine Hj.r_leS ?_
  | with_reducible refine Hj.r_mkM ?_
  | with_reducible refine Hj.r_part ?_
  | with_reducible refine Hj.r_partI ?_
  | with_reducible refine Hj.r_m1 ?_
  | with_reducible refine Hj.r_strs ?_
  | with_reducible refine Hj.r_andV ?_
  | with_reducible refine Hj.r_orV ?_
  | with_reducible refine Hj.r_notV ?_
  | with_reducible refine Hj.r_for ?_
  | with_reducible refine Hj.r_rng ?_
  | with_reducible refine Hj.r_itL ?_
  | with_reducible refine Hj.r_itT ?_
  | with_reducible refine Hj.r_itS ?_
  | with_reducible refine Hj.r_itSE ?_))
local macro_rules | `(tactic| walk_at "cl") => `(tactic| ((try dsimp only [L2.cxOf, L2.Cx.nox]); simp only [L2.start, List.map, List.length, List.replicate, List.cons_append, List.nil_append, Nat.reduceAdd, Nat.reduceSub]))
local macro_rules | `(tactic| walk_at "len") => `(tactic| (intro vs H Q E h; first
  | (obtain ⟨_, ee, _⟩ := h; subst ee; rfl) | (obtain ⟨_, _, ee, _⟩ := h; subst ee; rfl) | (obtain ⟨_, _, _, ee, _⟩ := h; subst ee; rfl) | (obtain ⟨_, _, _, _, ee, _⟩ := h; subst ee; rfl) | (obtain ⟨_, _, _, _, _, ee, _⟩ := h; subst ee; rfl) | (obtain ⟨_, _, _, _, _, _, ee, _⟩ := h; subst ee; rfl)
  | (obtain ⟨_, _, _, _, _, _, _, ee, _⟩ := h; subst ee; rfl) | (obtain ⟨_, _, _, _, _, _, _, _, ee, _⟩ := h; subst ee; rfl) | (obtain ⟨_, _, _, _, _, _, _, _, _, ee, _⟩ := h; subst ee; rfl) | (obtain ⟨_, _, _, _, _, _, _, _, _, _, ee, _⟩ := h; subst ee; rfl)))
namespace Hj
open PySem PySem.Spec L2
/-! ### bodies, counted -/
def bod : Stm → List (List Stm)
  | .join _ _ => []
  | .clear _ => []
  | .ite _ b o => [b, o]
  | .wh _ b => [b]
  | .each _ b => [b]
def cntB : List (List Stm) → Nat
  | [] => 0
  | b :: r => cntO b + cntB r
def depB : List (List Stm) → Nat
  | [] => 0
  | b :: r => max (1 + depO b) (depB r)
theorem cntS_bod (t : Stm) : cntS t = 1 + cntB (bod t) := by cases t <;> simp [cntS, bod, cntB] <;> (try omega)
theorem depS_bod (t : Stm) : depS t = depB (bod t) := by cases t <;> simp [depS, bod, depB] <;> (try omega)
theorem cntB_app : ∀ a b : List (List Stm), cntB (a ++ b) = cntB a + cntB b
  | [], b => by simp [cntB]
  | x :: r, b => by simp only [List.cons_append, cntB, cntB_app r b]; omega
theorem depB_app : ∀ a b : List (List Stm), depB (a ++ b) = max (depB a) (depB b)
  | [], b => by simp [depB]
  | x :: r, b => by simp only [List.cons_append, depB, depB_app r b]; omega
theorem depB_mem : ∀ {l : List (List Stm)} {b : List Stm}, b ∈ l → 1 + depO b ≤ depB l
  | [], _, h => by cases h
  | x :: r, b, h => by
    simp only [depB]
    rcases List.mem_cons.mp h with rfl | h
    · omega
    · have := depB_mem h
      omega
theorem cut_two (x y : V) (xs : List V) : cutV (x :: y :: xs) (some 2) none = xs := by
  unfold cutV
  rw [show (some (2 : Int)) = some ((2 : Nat) : Int) from rfl, HT.sIx_nat, HT.sIx_none]
  simp
theorem lk_ne : kJoin ≠ kIf ∧ kJoin ≠ kWhile ∧ kJoin ≠ kEach ∧ kClear ≠ kIf ∧ kClear ≠ kWhile ∧ kClear ≠ kEach := by decide +kernel
section
variable {P : Program} {w : World} {K : PySem.W.Frag} {mg : Str → Option Value} {base : Heap}
theorem dps_mapget {H : Hp} {bs : List V} {ls : List (List Stm)} {i : Nat} {x : V} (h : DpAll K H bs (ls.map dO)) (hi : bs[i]? = some x) : ∃ b, ls[i]? = some b ∧ Dp K H x (dO b) := by
  obtain ⟨d, hd, dx⟩ := DpAll.get h hi
  rw [List.getElem?_map] at hd
  cases e : ls[i]? with
  | none => rw [e] at hd; cases hd
  | some b =>
    rw [e] at hd
    obtain rfl := Option.some.inj hd
    exact ⟨b, rfl, dx⟩
theorem flat_map (ls : List (List Stm)) : flatDs (ls.map dO) = true := by
  induction ls with
  | nil => rfl
  | cons x r ih => simp only [List.map_cons, flatDs, flat_O, ih, Bool.and_self]
theorem r_tupsl {H : Hp} {Q : VK} {a : Addr} {x y z : V} {xs : List V} (hx : SqT K H a (x :: y :: xs)) (h : ∀ p H2, H p = none → Kp [] H H2 → H2 p = some (.tup xs) → Q (.ref p) H2) : rSl3 K (.ref a) (some 2) none H Q :=
  r_slT hx (fun h => by
    have h1 := h.1
    rw [show (some (2 : Int)) = some ((2 : Nat) : Int) from rfl, HT.sIx_nat] at h1
    simp at h1) fun p hp => by
      have := h p _ hp (Kp.new (o := .tup xs) hp) upd_same
      rw [cut_two]
      exact this
def spBod (K : PySem.W.Frag) : Sp := fun vs H Q _ => ∃ (v : V) (t : Stm), vs = [v] ∧ Dp K H v (dS t) ∧ ∀ (p : Addr) (bs : List V) (H' : Hp), Kp [] H H' → H' p = some (.lst bs) → DpAll K H' bs ((bod t).map dO) → Q (.ref p) H'
theorem sc_bodies_of : FnScope ["statement"] ["statement"] (defScope s_bodies_of) := ⟨rfl, rfl, rfl, by decide +kernel, rfl, by decide +kernel, by decide +kernel⟩
theorem ok_bodies_of {f : Addr} {fd : FuncData} (F : Fun K "bodies_of" "bodies_of" s_bodies_of f fd) (T : Txt P K mg) : FnOk P w K mg base CX0 1 f fd ["statement"] (spBod K) := by
  refine F.ok sc_bodies_of ?_ (fun cdv A outer s H vs Q E hr0 h => ?_)
  · walk_at "len"
  obtain ⟨v, t, rfl, dv, q⟩ := h
  obtain ⟨a1, a2, a3, a4, a5, a6⟩ := lk_ne
  refine ⟨_, (pss_cons (ps_if (pt_cmpR opIn (pe_ix ix_seq (pv 0) pe_int (fun _ _ => rfl)) (pe_tup (pa_cons pe_str (pa_cons pe_str (pa_cons pe_str pa_nil)))) (by rfl)) (pss_one (ps_ret (pe_callTy call_lstOf (by rfl) T.zlist (by decide +kernel) (pa_cons (pe_slice slAny (pv 0) (po_some pe_int) po_none) pa_nil)))) pss_nil) (pss_one (ps_ret (pe_lst pa_nil)))), ?_⟩
  walk_at "cl"
  walk_at "rk"
  cases t with
  | join x y =>
    simp only [dS] at dv
    obtain ⟨px, ys, rfl, hy, dy⟩ := dp_tupI dv
    obtain rfl := dps_str3 dy
    refine r_ixT hy (atI_nat (j := 0) rfl) ?_
    walk_at "rk"
    refine r_newT (by simp) fun p1 H1 n1 k1 e1 => ?_
    refine r_inT (xs := [kIf, kWhile, kEach].map V.str) (SqT.of e1) rfl (flat_strs _) ?_
    walk_at "rk"
    rw [inV_strs]
    refine r_F (by decide +kernel) ?_
    walk_at "rk"
    refine r_newL (by simp) fun p2 H2 n2 k2 e2 => ?_
    exact q p2 [] H2 (k1.trans k2) e2 .nil
  | clear x =>
    simp only [dS] at dv
    obtain ⟨px, ys, rfl, hy, dy⟩ := dp_tupI dv
    obtain ⟨y1, ys, rfl, d1, dy⟩ := dps_consI dy
    obtain ⟨y2, ys, rfl, d2, dy⟩ := dps_consI dy
    obtain rfl := dps_nilI dy
    obtain rfl := dp_strI d1
    refine r_ixT hy (atI_nat (j := 0) rfl) ?_
    walk_at "rk"
    refine r_newT (by simp) fun p1 H1 n1 k1 e1 => ?_
    refine r_inT (xs := [kIf, kWhile, kEach].map V.str) (SqT.of e1) rfl (flat_strs _) ?_
    walk_at "rk"
    rw [inV_strs]
    refine r_F (by decide +kernel) ?_
    walk_at "rk"
    refine r_newL (by simp) fun p2 H2 n2 k2 e2 => ?_
    exact q p2 [] H2 (k1.trans k2) e2 .nil
  | each u b =>
    simp only [dS] at dv
    obtain ⟨px, ys, rfl, hy, dy⟩ := dp_tupI dv
    obtain ⟨y1, ys1, rfl, d1, dy1⟩ := dps_consI dy
    obtain ⟨y2, ys2, rfl, d2, dy2⟩ := dps_consI dy1
    obtain rfl := dp_strI d1
    refine r_ixT hy (atI_nat (j := 0) rfl) ?_
    walk_at "rk"
    refine r_newT (by simp) fun p1 H1 n1 k1 e1 => ?_
    refine r_inT (xs := [kIf, kWhile, kEach].map V.str) (SqT.of e1) rfl (flat_strs _) ?_
    walk_at "rk"
    rw [inV_strs]
    refine r_T (by decide +kernel) ?_
    walk_at "rk"
    refine r_tupsl (z := .non) (k1.sqT hy) fun p2 H2 n2 k2 e2 => ?_
    walk_at "rk"
    refine r_lstOfTK (SqT.of e2) fun p3 H3 n3 k3 e3 => ?_
    exact q _ _ _ ((k1.trans k2).trans k3) e3 (dps_keep ((k1.trans k2).trans k3) _ _ (flat_map _) dy2)
  | wh t b =>
    simp only [dS] at dv
    obtain ⟨px, ys, rfl, hy, dy⟩ := dp_tupI dv
    obtain ⟨y1, ys1, rfl, d1, dy1⟩ := dps_consI dy
    obtain ⟨y2, ys2, rfl, d2, dy2⟩ := dps_consI dy1
    obtain rfl := dp_strI d1
    refine r_ixT hy (atI_nat (j := 0) rfl) ?_
    walk_at "rk"
    refine r_newT (by simp) fun p1 H1 n1 k1 e1 => ?_
    refine r_inT (xs := [kIf, kWhile, kEach].map V.str) (SqT.of e1) rfl (flat_strs _) ?_
    walk_at "rk"
    rw [inV_strs]
    refine r_T (by decide +kernel) ?_
    walk_at "rk"
    refine r_tupsl (z := .non) (k1.sqT hy) fun p2 H2 n2 k2 e2 => ?_
    walk_at "rk"
    refine r_lstOfTK (SqT.of e2) fun p3 H3 n3 k3 e3 => ?_
    exact q _ _ _ ((k1.trans k2).trans k3) e3 (dps_keep ((k1.trans k2).trans k3) _ _ (flat_map _) dy2)
  | ite t b o =>
    simp only [dS] at dv
    obtain ⟨px, ys, rfl, hy, dy⟩ := dp_tupI dv
    obtain ⟨y1, ys1, rfl, d1, dy1⟩ := dps_consI dy
    obtain ⟨y2, ys2, rfl, d2, dy2⟩ := dps_consI dy1
    obtain rfl := dp_strI d1
    refine r_ixT hy (atI_nat (j := 0) rfl) ?_
    walk_at "rk"
    refine r_newT (by simp) fun p1 H1 n1 k1 e1 => ?_
    refine r_inT (xs := [kIf, kWhile, kEach].map V.str) (SqT.of e1) rfl (flat_strs _) ?_
    walk_at "rk"
    rw [inV_strs]
    refine r_T (by decide +kernel) ?_
    walk_at "rk"
    refine r_tupsl (z := .non) (k1.sqT hy) fun p2 H2 n2 k2 e2 => ?_
    walk_at "rk"
    refine r_lstOfTK (SqT.of e2) fun p3 H3 n3 k3 e3 => ?_
    exact q _ _ _ ((k1.trans k2).trans k3) e3 (dps_keep ((k1.trans k2).trans k3) _ _ (flat_map _) dy2)
/-! ### count_statements -/
def spCnt (K : PySem.W.Frag) (n : Nat) : Sp := fun vs H Q _ => ∃ (v : V) (o : List Stm), vs = [v] ∧ Dp K H v (dO o) ∧ depO o ≤ n ∧ ∀ H' : Hp, Kp [] H H' → Q (.int (cntO o : Nat)) H'
theorem r_augV {i : Nat} {te : TE} {g : Int → Int → Int} {D : Ends} {σ : L2.St} {H : Hp} {m : Int} (hv : σ[i]? = some (some (.int m))) (h : te σ H fun y H1 => ipI g (.int m) y H1 fun z H2 => D.nx (σ.set i (some z)) H2) : tAug i te (ipI g) D σ H := ⟨_, hv, h⟩
theorem r_ipI {g : Int → Int → Int} {m n : Int} {H : Hp} {Q : VK} (h : Q (.int (g m n)) H) : ipI g (.int m) (.int n) H Q := ⟨m, n, rfl, rfl, h⟩
theorem sc_count_statements : FnScope ["order", "count", "statement", "body"] ["order"] (defScope s_count_statements) := ⟨rfl, rfl, rfl, by decide +kernel, rfl, by decide +kernel, by decide +kernel⟩
theorem ok_count_statements {k n : Nat} (hk : 1 ≤ k) {spC : Sp} {f : Addr} {fd : FuncData} (F : Fun K "count_statements" "count_statements" s_count_statements f fd) (T : Txt P K mg) (D_bodies_of : Dn P w K mg base CX0 k "bodies_of" ["statement"] (spBod K)) (D_count_statements : Dn P w K mg base CX0 k "count_statements" ["order"] spC)
    (hC : ∀ m, n = m + 1 → ∀ vs H Q E, spCnt K m vs H Q E → spC vs H Q E) : FnOk P w K mg base CX0 (k + 1) f fd ["order"] (spCnt K n) := by
  refine F.ok sc_count_statements ?_ (fun cdv A outer s H vs Q E hr0 h => ?_)
  · walk_at "len"
  obtain ⟨v, o, rfl, d0, hdp, q⟩ := h
  obtain ⟨po, xs, rfl, hx, dx⟩ := dp_tupI d0
  refine ⟨_, (pss_cons (ps_set (i := 1) sc_count_statements.nd rfl (Or.inl rfl) pe_int) (pss_cons (ps_for PassesOwn.never rfl (pi_tup (pv 0)) (pg_name (i := 2) sc_count_statements.nd rfl (Or.inl rfl)) (pss_cons (ps_aug (i := 1) sc_count_statements.nd rfl (Or.inl rfl) pe_int ip_add) (pss_one (ps_for PassesOwn.never rfl (pi_list (pe_d D_bodies_of hr0 pass0 (pa_cons (pv 2) pa_nil))) (pg_name (i := 3) sc_count_statements.nd rfl (Or.inl rfl)) (pss_one (ps_aug (i := 1) sc_count_statements.nd rfl (Or.inl rfl) (pe_d D_count_statements hr0 pass0 (pa_cons (pv 3) pa_nil)) ip_add)))))) (pss_one (ps_ret (pv 1))))), ?_⟩
  walk_at "cl"
  walk_at "rk"
  refine r_itTE hx ?_
  refine for_tup (K := K) (a := po) (xs := xs) (fun i σ' H' => ∃ o2 o3, σ' = [some (.ref po), some (.int (cntO (o.take i) : Nat)), o2, o3] ∧ Kp [] H H') ⟨_, _, by simp only [List.take_zero, cntO]; rfl, .refl⟩ (fun i σ' H' _ ⟨_, _, _, k⟩ => k.sqT hx) ?_ ?_
  · rintro i x σ' H2 hi ⟨o2, o3, rfl, k2⟩
    obtain ⟨d, hd, dx2⟩ := DpAll.get dx hi
    obtain ⟨t, ht, rfl⟩ := dL_get hd
    have dpt : depS t ≤ depO o := by
      have h1 : depO (o.take (i + 1)) = max (depO (o.take i)) (depS t) := by rw [take_get ht, depO_app, depO_one]
      have h2 := depO_app (o.take (i + 1)) (o.drop (i + 1))
      rw [List.take_append_drop] at h2
      omega
    have ct : cntO (o.take (i + 1)) = cntO (o.take i) + 1 + cntB (bod t) := by
      rw [take_get ht, cntO_app, cntO_one, cntS_bod]
      omega
    walk_at "rk"
    refine r_augV rfl ?_
    walk_at "rk"
    refine r_ipI ?_
    walk_at "rk"
    refine ⟨x, t, rfl, dp_keep k2 _ _ (flat_S t) dx2, fun pb bs H3 k3 e3 d3 => ?_⟩
    refine ⟨pb, rfl, ⟨bs, SqL.of e3⟩, ?_⟩
    refine for_list (K := K) (a := pb) (xs := bs) (fun j σ' H' => ∃ o3, σ' = [some (.ref po), some (.int ((cntO (o.take i) + 1 + cntB ((bod t).take j) : Nat) : Int)), some x, o3] ∧ Kp [] H3 H') ⟨_, by simp only [List.take_zero, cntB]; rfl, .refl⟩ (fun j σ' H' _ ⟨_, _, k⟩ => SqL.of (k.get e3 (by simp))) ?_ ?_
    · rintro j y σ' H4 hj ⟨o3, rfl, k4⟩
      obtain ⟨b, hb, db⟩ := dps_mapget d3 hj
      have hd2 := depB_mem (List.mem_of_getElem? hb)
      rw [← depS_bod] at hd2
      obtain ⟨m, rfl⟩ : ∃ m, n = m + 1 := ⟨n - 1, by omega⟩
      walk_at "rk"
      refine r_augV rfl ?_
      walk_at "rk"
      refine hC m rfl _ _ _ _ ⟨y, b, rfl, dp_keep k4 _ _ (flat_O b) db, by omega, fun H5 k5 => ?_⟩
      refine r_ipI ?_
      walk_at "rk"
      refine ⟨some y, ?_, k4.trans k5⟩
      rw [take_get hb, cntB_app]
      simp only [cntB, Nat.add_zero]
      rw [← Nat.add_assoc, Int.natCast_add (cntO (o.take i) + 1 + cntB ((bod t).take j)) (cntO b)]
      rfl
    · rintro σ' H4 ⟨o3, rfl, k4⟩
      have eb : (bod t).take bs.length = bod t := List.take_of_length_le (by rw [DpAll.len d3, List.length_map]; exact Nat.le_refl _)
      rw [eb, ← ct]
      walk_at "rk"
      exact ⟨_, _, rfl, (k2.trans k3).trans k4⟩
  · rintro σ' H2 ⟨o2, o3, rfl, k2⟩
    have e : o.take xs.length = o := List.take_of_length_le (by rw [DpAll.len dx, dL_len]; exact Nat.le_refl _)
    rw [e]
    walk_at "rk"
    exact q H2 k2
/-! ### depth_of -/
def spDep (K : PySem.W.Frag) (n : Nat) : Sp := fun vs H Q _ => ∃ (v : V) (o : List Stm), vs = [v] ∧ Dp K H v (dO o) ∧ depO o ≤ n ∧ ∀ H' : Hp, Kp [] H H' → Q (.int (depO o : Nat)) H'
theorem sc_depth_of : FnScope ["order", "depth", "statement", "body"] ["order"] (defScope s_depth_of) := ⟨rfl, rfl, rfl, by decide +kernel, rfl, by decide +kernel, by decide +kernel⟩
theorem ok_depth_of {k n : Nat} (hk : 1 ≤ k) {spC : Sp} {f : Addr} {fd : FuncData} (F : Fun K "depth_of" "depth_of" s_depth_of f fd) (T : Txt P K mg) (D_bodies_of : Dn P w K mg base CX0 k "bodies_of" ["statement"] (spBod K)) (D_depth_of : Dn P w K mg base CX0 k "depth_of" ["order"] spC)
    (hC : ∀ m, n = m + 1 → ∀ vs H Q E, spDep K m vs H Q E → spC vs H Q E) : FnOk P w K mg base CX0 (k + 1) f fd ["order"] (spDep K n) := by
  refine F.ok sc_depth_of ?_ (fun cdv A outer s H vs Q E hr0 h => ?_)
  · walk_at "len"
  obtain ⟨v, o, rfl, d0, hdp, q⟩ := h
  obtain ⟨po, xs, rfl, hx, dx⟩ := dp_tupI d0
  refine ⟨_, (pss_cons (ps_set (i := 1) sc_depth_of.nd rfl (Or.inl rfl) pe_int) (pss_cons (ps_for PassesOwn.never rfl (pi_tup (pv 0)) (pg_name (i := 2) sc_depth_of.nd rfl (Or.inl rfl)) (pss_one (ps_for PassesOwn.never rfl (pi_list (pe_d D_bodies_of hr0 pass0 (pa_cons (pv 2) pa_nil))) (pg_name (i := 3) sc_depth_of.nd rfl (Or.inl rfl)) (pss_one (ps_set (i := 1) sc_depth_of.nd rfl (Or.inl rfl) (pe_callB (call_mx rfl) (by rfl) T.zmax (by decide +kernel) (pa_cons (pv 1) (pa_cons (pe_op opAdd pe_int (pe_d D_depth_of hr0 pass0 (pa_cons (pv 3) pa_nil))) pa_nil)))))))) (pss_one (ps_ret (pv 1))))), ?_⟩
  walk_at "cl"
  walk_at "rk"
  refine r_itTE hx ?_
  refine for_tup (K := K) (a := po) (xs := xs) (fun i σ' H' => ∃ o2 o3, σ' = [some (.ref po), some (.int (depO (o.take i) : Nat)), o2, o3] ∧ Kp [] H H') ⟨_, _, by simp only [List.take_zero, depO]; rfl, .refl⟩ (fun i σ' H' _ ⟨_, _, _, k⟩ => k.sqT hx) ?_ ?_
  · rintro i x σ' H2 hi ⟨o2, o3, rfl, k2⟩
    obtain ⟨d, hd, dx2⟩ := DpAll.get dx hi
    obtain ⟨t, ht, rfl⟩ := dL_get hd
    have ct : depO (o.take (i + 1)) = max (depO (o.take i)) (depB (bod t)) := by rw [take_get ht, depO_app, depO_one, depS_bod]
    have dpt : depS t ≤ depO o := by
      have h2 := depO_app (o.take (i + 1)) (o.drop (i + 1))
      rw [List.take_append_drop] at h2
      rw [depS_bod]
      omega
    walk_at "rk"
    refine ⟨x, t, rfl, dp_keep k2 _ _ (flat_S t) dx2, fun pb bs H3 k3 e3 d3 => ?_⟩
    refine ⟨pb, rfl, ⟨bs, SqL.of e3⟩, ?_⟩
    refine for_list (K := K) (a := pb) (xs := bs) (fun j σ' H' => ∃ o3, σ' = [some (.ref po), some (.int ((max (depO (o.take i)) (depB ((bod t).take j)) : Nat) : Int)), some x, o3] ∧ Kp [] H3 H') ⟨_, by simp only [List.take_zero, depB, Nat.max_zero]; rfl, .refl⟩ (fun j σ' H' _ ⟨_, _, k⟩ => SqL.of (k.get e3 (by simp))) ?_ ?_
    · rintro j y σ' H4 hj ⟨o3, rfl, k4⟩
      obtain ⟨b, hb, db⟩ := dps_mapget d3 hj
      have hd2 := depB_mem (List.mem_of_getElem? hb)
      rw [← depS_bod] at hd2
      obtain ⟨m, rfl⟩ : ∃ m, n = m + 1 := ⟨n - 1, by omega⟩
      walk_at "rk"
      refine hC m rfl _ _ _ _ ⟨y, b, rfl, dp_keep k4 _ _ (flat_O b) db, by omega, fun H5 k5 => ?_⟩
      walk_at "rk"
      refine ⟨some y, ?_, k4.trans k5⟩
      have em : max ((max (depO (o.take i)) (depB ((bod t).take j)) : Nat) : Int) (1 + (depO b : Nat)) = ((max (depO (o.take i)) (depB ((bod t).take (j + 1))) : Nat) : Int) := by
        rw [take_get hb, depB_app]
        simp only [depB, Nat.max_zero]
        omega
      rw [em]
      rfl
    · rintro σ' H4 ⟨o3, rfl, k4⟩
      have eb : (bod t).take bs.length = bod t := List.take_of_length_le (by rw [DpAll.len d3, List.length_map]; exact Nat.le_refl _)
      rw [eb, ← ct]
      walk_at "rk"
      exact ⟨_, _, rfl, (k2.trans k3).trans k4⟩
  · rintro σ' H2 ⟨o2, o3, rfl, k2⟩
    have e : o.take xs.length = o := List.take_of_length_le (by rw [DpAll.len dx, dL_len]; exact Nat.le_refl _)
    rw [e]
    walk_at "rk"
    exact q H2 k2
end
end Hj
end
section
set_option Elab.async false
set_option linter.all false
set_option maxRecDepth 100000
set_option maxHeartbeats 16000000
local macro_rules | `(tactic| walk_at "rd") => `(tactic| repeat (first
  | with_reducible refine Hj.r_seq ?_
  | with_reducible refine Hj.r_nx ?_
  | with_reducible refine Hj.r_rt ?_
  | with_reducible refine L2.iteT ?_
  | with_reducible refine L2.iteF ?_
  | with_reducible refine Hj.r_set ?_
  | with_reducible refine Hj.r_gname ?_
  | with_reducible refine Hj.r_if ?_
  | with_reducible refine Hj.r_ret ?_
  | ((with_reducible show L2.tVar _ _ _ _); refine Hj.r_var rfl ?_)
  | with_reducible refine Hj.r_c ?_
  | with_reducible refine Hj.r_cons ?_
  | with_reducible refine Hj.r_nil ?_
  | with_reducible refine Hj.r_op ?_
  | with_reducible refine Hj.r_test ?_
  | with_reducible refine Hj.r_B ?_
  | with_reducible refine Hj.r_cb ?_
  | with_reducible refine Hj.r_blV ?_
  | with_reducible refine Hj.r_and ?_
  | with_reducible refine Hj.r_or ?_
  | with_reducible refine Hj.r_not ?_
  | with_reducible refine Hj.r_call ?_
  | with_reducible refine Hj.r_tup ?_
  | with_reducible refine Hj.r_lst ?_
  | with_reducible refine Hj.r_eqS ?_
  | with_reducible refine Hj.r_eqI ?_
  | with_reducible refine Hj.r_neS ?_
  | with_reducible refine Hj.r_neI ?_
  | with_reducible refine Hj.r_isN ?_
  | with_reducible refine Hj.r_I0 ?_
  | with_reducible refine Hj.r_addI ?_
  | with_reducible refine Hj.r_intOf ?_
  | with_reducible refine Hj.r_mx ?_
  | with_reducible refine Hj.r_un ?_
  | with_reducible refine Hj.r_neg ?_
  | with_reducible refine Hj.r_drop ?_
  | with_reducible refine Hj.r_next ?_
  | with_reducible refine Hj.r_retN ?_
  | with_reducible refine Hj.r_sub ?_
  | with_reducible refine Hj.r_asg ?_
  | with_reducible refine Hj.r_bm ?_
  | with_reducible refine Hj.r_bm0 ?_
  | with_reducible refine Hj.r_meth ?_
  | with_reducible refine Hj.r_make ?_
  | with_reducible refine Hj.r_fldK ?_
  | with_reducible refine Hj.r_setK ?_
  | with_reducible refine Hj.r_sl ?_
  | with_reducible refine Hj.r_no ?_
  | with_reducible refine Hj.r_mkB ?_
  | with_reducible refine Hj.r_chain ?_
  | with_reducible refine Hj.r_leS ?_
  | with_reducible refine Hj.r_mkM ?_
  | with_reducible refine Hj.r_part ?_
  | with_reducible refine Hj.r_partI ?_
  | with_reducible refine Hj.r_m1 ?_
  | with_reducible refine Hj.r_strs ?_
  | with_reducible refine Hj.r_andV ?_
  | with_reducible refine Hj.r_orV ?_
  | with_reducible refine Hj.r_notV ?_
  | with_reducible refine Hj.r_for ?_
  | with_reducible refine Hj.r_rng ?_
  | with_reducible refine Hj.r_itL ?_
  | with_reducible refine Hj.r_itT ?_
  | with_reducible refine Hj.r_itS ?_
  | with_reducible refine Hj.r_itSE ?_))
local macro_rules | `(tactic| walk_at "rk") => `(tactic| repeat (first
  | with_reducible refine Hj.r_seq ?_
  | with_reducible refine Hj.r_nx ?_
  | with_reducible refine Hj.r_rt ?_
  | with_reducible refine L2.iteT ?_
  | with_reducible refine L2.iteF ?_
  | with_reducible refine Hj.r_set ?_
  | with_reducible refine Hj.r_gname ?_
  | with_reducible refine Hj.r_if ?_
  | with_reducible refine Hj.r_ret ?_
  | ((with_reducible show L2.tVar _ _ _ _); refine Hj.r_var rfl ?_)
  | with_reducible refine Hj.r_c ?_
  | with_reducible refine Hj.r_cons ?_
  | with_reducible refine Hj.r_nil ?_
  | with_reducible refine Hj.r_op ?_
  | with_reducible refine Hj.r_test ?_
  | with_reducible refine Hj.r_B ?_
  | with_reducible refine Hj.r_cb ?_
  | with_reducible refine Hj.r_blV ?_
  | with_reducible refine Hj.r_and ?_
  | with_reducible refine Hj.r_or ?_
  | with_reducible refine Hj.r_not ?_
  | with_reducible refine Hj.r_call ?_
  | with_reducible refine Hj.r_tupK ?_
  | with_reducible refine Hj.r_lstK ?_
  | with_reducible refine Hj.r_eqS ?_
  | with_reducible refine Hj.r_eqI ?_
  | with_reducible refine Hj.r_neS ?_
  | with_reducible refine Hj.r_neI ?_
  | with_reducible refine Hj.r_isN ?_
  | with_reducible refine Hj.r_I0 ?_
  | with_reducible refine Hj.r_addI ?_
  | with_reducible refine Hj.r_intOf ?_
  | with_reducible refine Hj.r_mx ?_
  | with_reducible refine Hj.r_un ?_
  | with_reducible refine Hj.r_neg ?_
  | with_reducible refine Hj.r_drop ?_
  | with_reducible refine Hj.r_next ?_
  | with_reducible refine Hj.r_retN ?_
  | with_reducible refine Hj.r_sub ?_
  | with_reducible refine Hj.r_asg ?_
  | with_reducible refine Hj.r_bm ?_
  | with_reducible refine Hj.r_bm0 ?_
  | with_reducible refine Hj.r_meth ?_
  | with_reducible refine Hj.r_make ?_
  | with_reducible refine Hj.r_fldK ?_
  | with_reducible refine Hj.r_setK ?_
  | with_reducible refine Hj.r_sl ?_
  | with_reducible refine Hj.r_no ?_
  | with_reducible refine Hj.r_mkB ?_
  | with_reducible refine Hj.r_chain ?_
  | with_reducible refine Hj.r_leS ?_
  | with_reducible refine Hj.r_mkM ?_
  | with_reducible refine Hj.r_part ?_
  | with_reducible refine Hj.r_partI ?_
  | with_reducible refine Hj.r_m1 ?_
  | with_reducible refine Hj.r_strs ?_
  | with_reducible refine Hj.r_andV ?_
  | with_reducible refine Hj.r_orV ?_
  | with_reducible refine Hj.r_notV ?_
  | with_reducible refine Hj.r_for ?_
  | with_reducible refine Hj.r_rng ?_
  | with_reducible refine Hj.r_itL ?_
  | with_reducible refine Hj.r_itT ?_
  | with_reducible refine Hj.r_itS ?_
  | with_reducible refine Hj.r_itSE ?_))
local macro_rules | `(tactic| walk_at "cl") => `(tactic| ((try dsimp only [L2.cxOf, L2.Cx.nox]); simp only [L2.start, List.map, List.length, List.replicate, List.cons_append, List.nil_append, Nat.reduceAdd, Nat.reduceSub]))
local macro_rules | `(tactic| walk_at "len") => `(tactic| (intro vs H Q E h; first
  | (obtain ⟨_, ee, _⟩ := h; subst ee; rfl) | (obtain ⟨_, _, ee, _⟩ := h; subst ee; rfl) | (obtain ⟨_, _, _, ee, _⟩ := h; subst ee; rfl) | (obtain ⟨_, _, _, _, ee, _⟩ := h; subst ee; rfl) | (obtain ⟨_, _, _, _, _, ee, _⟩ := h; subst ee; rfl) | (obtain ⟨_, _, _, _, _, _, ee, _⟩ := h; subst ee; rfl)
  | (obtain ⟨_, _, _, _, _, _, _, ee, _⟩ := h; subst ee; rfl) | (obtain ⟨_, _, _, _, _, _, _, _, ee, _⟩ := h; subst ee; rfl) | (obtain ⟨_, _, _, _, _, _, _, _, _, ee, _⟩ := h; subst ee; rfl) | (obtain ⟨_, _, _, _, _, _, _, _, _, _, ee, _⟩ := h; subst ee; rfl)))
namespace Hj
open PySem PySem.Spec L2
/-! ### data that are compared -/
mutual
def smD : PyData → Bool
  | .dict _ => false
  | .list ds => decide (ds.length ≤ 1000) && smDs ds
  | .tuple ds => decide (ds.length ≤ 1000) && smDs ds
  | _ => true
def smDs : List PyData → Bool
  | [] => true
  | d :: ds => smD d && smDs ds
end
def tyD : PyData → String
  | .none => "NoneType"
  | .bool _ => "bool"
  | .int _ => "int"
  | .str _ => "str"
  | .list _ => "list"
  | .tuple _ => "tuple"
  | .dict _ => "dict"
theorem smDs_mem : ∀ {ds : List PyData} {d : PyData}, smDs ds = true → d ∈ ds → smD d = true
  | [], _, _, h => by cases h
  | x :: r, d, h, hm => by
    simp only [smDs, Bool.and_eq_true] at h
    rcases List.mem_cons.mp hm with rfl | hm
    · exact h.1
    · exact smDs_mem h.2 hm
theorem depth_mem : ∀ {ds : List PyData} {d : PyData}, d ∈ ds → d.depth ≤ PyData.depthAll ds
  | [], _, h => by cases h
  | x :: r, d, h => by
    simp only [PyData.depthAll]
    rcases List.mem_cons.mp h with rfl | h
    · omega
    · have := depth_mem h
      omega
section
variable {P : Program} {w : World} {K : PySem.W.Frag} {mg : Str → Option Value} {base : Heap}
theorem dp_ty {H : Hp} {v : V} {d : PyData} (h : Dp K H v d) : TyX K H v (.type (tyD d)) := by
  cases h with
  | non => exact .base .non
  | bl b => exact .base (.bl b)
  | int i => exact .base (.int i)
  | str x => exact .base (.str x)
  | lst h _ =>
    rcases h with (h | ⟨o, h⟩) | ⟨o, its, n, hk, hc, _⟩
    · exact .base (.lst h)
    · exact .base (.frz h)
    · exact .kList hk hc
  | tup h _ =>
    rcases h with (h | ⟨o, h⟩) | ⟨o, its, n, hk, hc, _⟩
    · exact .base (.tup h)
    · exact .fTuple h
    · exact .kTuple hk hc
theorem r_isi {H : Hp} {Q : VK} {v : V} {d : PyData} {b : String} {r : Bool} (h : Dp K H v d) (e : kitB (tyD d) b = some r) (q : Q (.bl r) H) : rIsi K [v, .ty b] H Q := ⟨v, .ty b, _, _, r, rfl, .ty b, dp_ty h, kit_ty e, q⟩
/-- a list or a tuple -/
def SqX (K : PySem.W.Frag) (H : Hp) (v : V) (xs : List V) : Prop := ∃ a, v = .ref a ∧ (SqL K H a xs ∨ SqT K H a xs)
theorem r_lenX {H : Hp} {Q : VK} {v : V} {xs : List V} (h : SqX K H v xs) (q : Q (.int (xs.length : Nat)) H) : rLenA K [v] H Q := by
  obtain ⟨a, rfl, h | h⟩ := h
  · exact r_lenL h q
  · exact r_lenT h q
theorem r_ixX {H : Hp} {Q : VK} {v x : V} {xs : List V} {n : Int} (h : SqX K H v xs) (hi : atI xs n = some x) (q : Q x H) : rIx K v (.int n) H Q := by
  obtain ⟨a, rfl, h | h⟩ := h
  · exact r_ixL h hi q
  · exact r_ixT h hi q
def spSame (K : PySem.W.Frag) (n : Nat) : Sp := fun vs H Q _ => ∃ (x y : V) (d : PyData), vs = [x, y] ∧ Dp K H x d ∧ Dp K H y d ∧ smD d = true ∧ d.depth ≤ n ∧ Q (.bl true) H
theorem sc_law_same : FnScope ["_law_actual", "_law_expected", "_law_k"] ["_law_actual", "_law_expected"] (defScope s_law_same) := ⟨rfl, rfl, rfl, by decide +kernel, rfl, by decide +kernel, by decide +kernel⟩
theorem ok_law_same {k n : Nat} {spS : Sp} {f : Addr} {fd : FuncData} (F : Fun K "_law_same" "_law_same" s_law_same f fd) (T : Txt P K mg) (D_law_same : Dn P w K mg base CX0 k "_law_same" ["_law_actual", "_law_expected"] spS)
    (hS : ∀ m, n = m + 1 → ∀ vs H Q E, spSame K m vs H Q E → spS vs H Q E) : FnOk P w K mg base CX0 (k + 1) f fd ["_law_actual", "_law_expected"] (spSame K n) := by
  refine F.ok sc_law_same ?_ (fun cdv A outer s H vs Q E hr0 h => ?_)
  · walk_at "len"
  obtain ⟨x, y, d, rfl, dx, dy, hsm, hdp, q⟩ := h
  refine ⟨_, (pss_cons (ps_if (pt_cmpR op_isNon (pv 1) pe_non (nomark _)) (pss_one (ps_ret (pe_cmpR op_isNon (pv 0) pe_non (nomark _)))) pss_nil) (pss_cons (ps_if (pt_val (pe_callB call_isi (by rfl) T.zisinstance (by decide +kernel) (pa_cons (pv 1) (pa_cons (pe_bltn (v := .ty "bool") rfl T.zbool (by decide +kernel) rfl) pa_nil)))) (pss_one (ps_ret (pe_and (pe_callB call_isi (by rfl) T.zisinstance (by decide +kernel) (pa_cons (pv 0) (pa_cons (pe_bltn (v := .ty "bool") rfl T.zbool (by decide +kernel) rfl) pa_nil))) (pe_one (pe_cmpR op_eq (pv 0) (pv 1) (nomark _)))))) pss_nil) (pss_cons (ps_if (pt_val (pe_callB call_isi (by rfl) T.zisinstance (by decide +kernel) (pa_cons (pv 1) (pa_cons (pe_bltn (v := .ty "int") rfl T.zint (by decide +kernel) rfl) pa_nil)))) (pss_one (ps_ret (pe_and (pe_callB call_isi (by rfl) T.zisinstance (by decide +kernel) (pa_cons (pv 0) (pa_cons (pe_bltn (v := .ty "int") rfl T.zint (by decide +kernel) rfl) pa_nil))) (pe_and (pe_not (pe_callB call_isi (by rfl) T.zisinstance (by decide +kernel) (pa_cons (pv 0) (pa_cons (pe_bltn (v := .ty "bool") rfl T.zbool (by decide +kernel) rfl) pa_nil)))) (pe_one (pe_cmpR op_eq (pv 0) (pv 1) (nomark _))))))) pss_nil) (pss_cons (ps_if (pt_val (pe_callB call_isi (by rfl) T.zisinstance (by decide +kernel) (pa_cons (pv 1) (pa_cons (pe_bltn (v := .ty "str") rfl T.zstr (by decide +kernel) rfl) pa_nil)))) (pss_one (ps_ret (pe_and (pe_callB call_isi (by rfl) T.zisinstance (by decide +kernel) (pa_cons (pv 0) (pa_cons (pe_bltn (v := .ty "str") rfl T.zstr (by decide +kernel) rfl) pa_nil))) (pe_one (pe_cmpR op_eq (pv 0) (pv 1) (nomark _)))))) pss_nil) (Evl.pss_cut (ps_if (pt_val (pe_callB call_isi (by rfl) T.zisinstance (by decide +kernel) (pa_cons (pv 1) (pa_cons (pe_bltn (v := .ty "list") rfl T.zlist (by decide +kernel) rfl) pa_nil)))) (pss_one (ps_if (pt_not (pt_val (pe_callB call_isi (by rfl) T.zisinstance (by decide +kernel) (pa_cons (pv 0) (pa_cons (pe_bltn (v := .ty "list") rfl T.zlist (by decide +kernel) rfl) pa_nil))))) (pss_one (ps_ret pe_bl)) pss_nil)) (pss_one (ps_if (pt_not (pt_val (pe_callB call_isi (by rfl) T.zisinstance (by decide +kernel) (pa_cons (pv 0) (pa_cons (pe_bltn (v := .ty "tuple") rfl T.ztuple (by decide +kernel) rfl) pa_nil))))) (pss_one (ps_ret pe_bl)) pss_nil))) (pss_cons (ps_if (pt_cmpR op_ne (pe_callB call_lenA (by rfl) T.zlen (by decide +kernel) (pa_cons (pv 0) pa_nil)) (pe_callB call_lenA (by rfl) T.zlen (by decide +kernel) (pa_cons (pv 1) pa_nil)) (nomark _)) (pss_one (ps_ret pe_bl)) pss_nil) (pss_cons (ps_for PassesOwn.never rfl (pi_range1 rfl T.zrange (pa_cons (pe_callB call_lenA (by rfl) T.zlen (by decide +kernel) (pa_cons (pv 1) pa_nil)) pa_nil)) (pg_name (i := 2) sc_law_same.nd rfl (Or.inl rfl)) (pss_one (ps_if (pt_not (pt_val (pe_d D_law_same hr0 pass0 (pa_cons (pe_ix ix_seq (pv 0) (pv 2) (fun _ _ => rfl)) (pa_cons (pe_ix ix_seq (pv 1) (pv 2) (fun _ _ => rfl)) pa_nil))))) (pss_one (ps_ret pe_bl)) pss_nil))) (pss_one (ps_ret pe_bl))))))))), ?_⟩
  walk_at "cl"
  walk_at "rk"
  have loop : ∀ (D : Ends) (ds : List PyData) (xs ys : List V), d.depth = PyData.depthAll ds + 1 → smDs ds = true → ds.length ≤ 1000 → SqX K H x xs → SqX K H y ys → DpAll K H xs ds → DpAll K H ys ds → D.rt = Q → ∀ (i : Nat) (σ' : L2.St) (H' : Hp), i < ys.length → (∃ o2, σ' = [some x, some y, o2] ∧ H' = H) →
      ∃ (m : Nat) (xi yi : V) (di : PyData), n = m + 1 ∧ xs[i]? = some xi ∧ ys[i]? = some yi ∧ Dp K H xi di ∧ Dp K H yi di ∧ smD di = true ∧ di.depth ≤ m := fun D ds xs ys e1 e2 e3 e4 e5 e6 e7 e8 i σ' H' hi _ => by
    obtain ⟨m, rfl⟩ : ∃ m, n = m + 1 := ⟨n - 1, by omega⟩
    have l1 := DpAll.len e6
    have l2 := DpAll.len e7
    obtain ⟨di, hdi, dyi⟩ := DpAll.get e7 (List.getElem?_eq_getElem hi)
    have hix : i < xs.length := by omega
    obtain ⟨dj, hdj, dxi⟩ := DpAll.get e6 (List.getElem?_eq_getElem hix)
    obtain rfl : di = dj := Option.some.inj (hdi.symm.trans hdj)
    have hm := List.mem_of_getElem? hdi
    have := depth_mem hm
    exact ⟨m, _, _, di, rfl, List.getElem?_eq_getElem hix, List.getElem?_eq_getElem hi, dxi, dyi, smDs_mem e2 hm, by omega⟩
  cases d with
  | dict _ => simp [smD] at hsm
  | none =>
    cases dx
    cases dy
    refine r_T (by decide +kernel) ?_
    walk_at "rk"
    exact q
  | bool b =>
    have dx0 := dx
    have dy0 := dy
    cases dx
    cases dy
    refine r_F (decide_eq_false (by simp)) ?_
    walk_at "rk"
    refine r_isi (r := true) dy0 (by show kitB "bool" "bool" = some true; decide +kernel) ?_
    walk_at "rk"
    refine r_isi (r := true) dx0 (by show kitB "bool" "bool" = some true; decide +kernel) ?_
    walk_at "rk"
    refine r_eqB ?_
    rw [decide_eq_true rfl]
    exact q
  | int i =>
    have dx0 := dx
    have dy0 := dy
    cases dx
    cases dy
    refine r_F (decide_eq_false (by simp)) ?_
    walk_at "rk"
    refine r_isi (r := false) dy0 (by show kitB "int" "bool" = some false; decide +kernel) ?_
    walk_at "rk"
    refine r_isi (r := true) dy0 (by show kitB "int" "int" = some true; decide +kernel) ?_
    walk_at "rk"
    refine r_isi (r := true) dx0 (by show kitB "int" "int" = some true; decide +kernel) ?_
    walk_at "rk"
    refine r_isi (r := false) dx0 (by show kitB "int" "bool" = some false; decide +kernel) ?_
    walk_at "rk"
    refine r_T (by rfl) ?_
    walk_at "rk"
    rw [decide_eq_true rfl]
    exact q
  | str z =>
    have dx0 := dx
    have dy0 := dy
    cases dx
    cases dy
    refine r_F (decide_eq_false (by simp)) ?_
    walk_at "rk"
    refine r_isi (r := false) dy0 (by show kitB "str" "bool" = some false; decide +kernel) ?_
    walk_at "rk"
    refine r_isi (r := false) dy0 (by show kitB "str" "int" = some false; decide +kernel) ?_
    walk_at "rk"
    refine r_isi (r := true) dy0 (by show kitB "str" "str" = some true; decide +kernel) ?_
    walk_at "rk"
    refine r_isi (r := true) dx0 (by show kitB "str" "str" = some true; decide +kernel) ?_
    walk_at "rk"
    rw [decide_eq_true rfl]
    exact q
  | list ds =>
    have dx0 := dx
    have dy0 := dy
    obtain ⟨hxn, xs, hxx, dxs⟩ : (x ≠ .non) ∧ ∃ xs, SqX K H x xs ∧ DpAll K H xs ds := by cases dx with | lst h1 h2 => exact ⟨by simp, _, ⟨_, rfl, .inl h1⟩, h2⟩
    obtain ⟨hyn, ys, hyx, dys⟩ : (y ≠ .non) ∧ ∃ xs, SqX K H y xs ∧ DpAll K H xs ds := by cases dy with | lst h1 h2 => exact ⟨by simp, _, ⟨_, rfl, .inl h1⟩, h2⟩
    simp only [smD, Bool.and_eq_true, decide_eq_true_eq] at hsm
    refine r_F (decide_eq_false hyn) ?_
    walk_at "rk"
    refine r_isi (r := false) dy0 (by show kitB "list" "bool" = some false; decide +kernel) ?_
    walk_at "rk"
    refine r_isi (r := false) dy0 (by show kitB "list" "int" = some false; decide +kernel) ?_
    walk_at "rk"
    refine r_isi (r := false) dy0 (by show kitB "list" "str" = some false; decide +kernel) ?_
    walk_at "rk"
    refine r_cut (fun σ' H' => σ' = [some x, some y, none] ∧ H' = H) ?_ ?_
    · walk_at "rk"
      refine r_isi (r := true) dy0 (by show kitB "list" "list" = some true; decide +kernel) ?_
      walk_at "rk"
      refine r_isi (r := true) dx0 (by show kitB "list" "list" = some true; decide +kernel) ?_
      walk_at "rk"
      refine r_F (by rfl) ?_
      walk_at "rk"
      exact ⟨rfl, rfl⟩
    rintro σ' H' ⟨rfl, rfl⟩
    have l1 := DpAll.len dxs
    have l2 := DpAll.len dys
    walk_at "rk"
    refine r_lenX hxx ?_
    walk_at "rk"
    refine r_lenX hyx ?_
    walk_at "rk"
    refine r_F (by rw [l1, l2]; simp) ?_
    walk_at "rk"
    refine r_lenX hyx ?_
    walk_at "rk"
    refine r_rngE (by omega) (by omega) ?_
    rw [Int.toNat_natCast]
    refine for_range (lo := 0) (n := ys.length) (fun i σ' H'' => ∃ o2, σ' = [some x, some y, o2] ∧ H'' = H') ⟨_, rfl, rfl⟩ ?_ ?_
    · rintro i σ' H'' hi ⟨o2, rfl, rfl⟩
      obtain ⟨m, xi, yi, di, hn, hx1, hy1, d1, d2, d3, d4⟩ := loop ⟨fun _ _ => False, Q, fun _ _ => False, fun _ _ => False⟩ ds xs ys rfl hsm.2 hsm.1 hxx hyx dxs dys rfl i _ H'' hi ⟨o2, rfl, rfl⟩
      walk_at "rk"
      rw [Int.zero_add]
      refine r_ixX hxx (atI_nat hx1) ?_
      walk_at "rk"
      refine r_ixX hyx (atI_nat hy1) ?_
      walk_at "rk"
      refine hS m hn _ _ _ _ ⟨xi, yi, di, rfl, d1, d2, d3, d4, ?_⟩
      walk_at "rk"
      refine r_F (by rfl) ?_
      walk_at "rk"
      exact ⟨_, rfl, rfl⟩
    · rintro σ' H'' ⟨o2, rfl, rfl⟩
      walk_at "rk"
      exact q
  | tuple ds =>
    have dx0 := dx
    have dy0 := dy
    obtain ⟨hxn, xs, hxx, dxs⟩ : (x ≠ .non) ∧ ∃ xs, SqX K H x xs ∧ DpAll K H xs ds := by cases dx with | tup h1 h2 => exact ⟨by simp, _, ⟨_, rfl, .inr h1⟩, h2⟩
    obtain ⟨hyn, ys, hyx, dys⟩ : (y ≠ .non) ∧ ∃ xs, SqX K H y xs ∧ DpAll K H xs ds := by cases dy with | tup h1 h2 => exact ⟨by simp, _, ⟨_, rfl, .inr h1⟩, h2⟩
    simp only [smD, Bool.and_eq_true, decide_eq_true_eq] at hsm
    refine r_F (decide_eq_false hyn) ?_
    walk_at "rk"
    refine r_isi (r := false) dy0 (by show kitB "tuple" "bool" = some false; decide +kernel) ?_
    walk_at "rk"
    refine r_isi (r := false) dy0 (by show kitB "tuple" "int" = some false; decide +kernel) ?_
    walk_at "rk"
    refine r_isi (r := false) dy0 (by show kitB "tuple" "str" = some false; decide +kernel) ?_
    walk_at "rk"
    refine r_cut (fun σ' H' => σ' = [some x, some y, none] ∧ H' = H) ?_ ?_
    · walk_at "rk"
      refine r_isi (r := false) dy0 (by show kitB "tuple" "list" = some false; decide +kernel) ?_
      walk_at "rk"
      refine r_isi (r := true) dx0 (by show kitB "tuple" "tuple" = some true; decide +kernel) ?_
      walk_at "rk"
      refine r_F (by rfl) ?_
      walk_at "rk"
      exact ⟨rfl, rfl⟩
    rintro σ' H' ⟨rfl, rfl⟩
    have l1 := DpAll.len dxs
    have l2 := DpAll.len dys
    walk_at "rk"
    refine r_lenX hxx ?_
    walk_at "rk"
    refine r_lenX hyx ?_
    walk_at "rk"
    refine r_F (by rw [l1, l2]; simp) ?_
    walk_at "rk"
    refine r_lenX hyx ?_
    walk_at "rk"
    refine r_rngE (by omega) (by omega) ?_
    rw [Int.toNat_natCast]
    refine for_range (lo := 0) (n := ys.length) (fun i σ' H'' => ∃ o2, σ' = [some x, some y, o2] ∧ H'' = H') ⟨_, rfl, rfl⟩ ?_ ?_
    · rintro i σ' H'' hi ⟨o2, rfl, rfl⟩
      obtain ⟨m, xi, yi, di, hn, hx1, hy1, d1, d2, d3, d4⟩ := loop ⟨fun _ _ => False, Q, fun _ _ => False, fun _ _ => False⟩ ds xs ys rfl hsm.2 hsm.1 hxx hyx dxs dys rfl i _ H'' hi ⟨o2, rfl, rfl⟩
      walk_at "rk"
      rw [Int.zero_add]
      refine r_ixX hxx (atI_nat hx1) ?_
      walk_at "rk"
      refine r_ixX hyx (atI_nat hy1) ?_
      walk_at "rk"
      refine hS m hn _ _ _ _ ⟨xi, yi, di, rfl, d1, d2, d3, d4, ?_⟩
      walk_at "rk"
      refine r_F (by rfl) ?_
      walk_at "rk"
      exact ⟨_, rfl, rfl⟩
    · rintro σ' H'' ⟨o2, rfl, rfl⟩
      walk_at "rk"
      exact q
end
end Hj
end
section
set_option Elab.async false
set_option linter.all false
set_option maxRecDepth 100000
set_option maxHeartbeats 16000000
local macro_rules | `(tactic| walk_at "rd") => `(tactic| repeat (first
  | with_reducible refine Hj.r_seq ?_
  | with_reducible refine Hj.r_nx ?_
  | with_reducible refine Hj.r_rt ?_
  | with_reducible refine L2.iteT ?_
  | with_reducible refine L2.iteF ?_
  | with_reducible refine Hj.r_set ?_
  | with_reducible refine Hj.r_gname ?_
  | with_reducible refine Hj.r_if ?_
  | with_reducible refine Hj.r_ret ?_
  | ((with_reducible show L2.tVar _ _ _ _); refine Hj.r_var rfl ?_)
  | with_reducible refine Hj.r_c ?_
  | with_reducible refine Hj.r_cons ?_
  | with_reducible refine Hj.r_nil ?_
  | with_reducible refine Hj.r_op ?_
  | with_reducible refine Hj.r_test ?_
  | with_reducible refine Hj.r_B ?_
  | with_reducible refine Hj.r_cb ?_
  | with_reducible refine Hj.r_blV ?_
  | with_reducible refine Hj.r_and ?_
  | with_reducible refine Hj.r_or ?_
  | with_reducible refine Hj.r_not ?_
  | with_reducible refine Hj.r_call ?_
  | with_reducible refine Hj.r_tup ?_
  | with_reducible refine Hj.r_lst ?_
  | with_reducible refine Hj.r_eqS ?_
  | with_reducible refine Hj.r_eqI ?_
  | with_reducible refine Hj.r_neS ?_
  | with_reducible refine Hj.r_neI ?_
  | with_reducible refine Hj.r_isN ?_
  | with_reducible refine Hj.r_I0 ?_
  | with_reducible refine Hj.r_addI ?_
  | with_reducible refine Hj.r_intOf ?_
  | with_reducible refine Hj.r_mx ?_
  | with_reducible refine Hj.r_un ?_
  | with_reducible refine Hj.r_neg ?_
  | with_reducible refine Hj.r_drop ?_
  | with_reducible refine Hj.r_next ?_
  | with_reducible refine Hj.r_retN ?_
  | with_reducible refine Hj.r_sub ?_
  | with_reducible refine Hj.r_asg ?_
  | with_reducible refine Hj.r_bm ?_
  | with_reducible refine Hj.r_bm0 ?_
  | with_reducible refine Hj.r_meth ?_
  | with_reducible refine Hj.r_make ?_
  | with_reducible refine Hj.r_fldK ?_
  | with_reducible refine Hj.r_setK ?_
  | with_reducible refine Hj.r_sl ?_
  | with_reducible refine Hj.r_no ?_
  | with_reducible refine Hj.r_mkB ?_
  | with_reducible refine Hj.r_chain ?_
  | with_reducible refine Hj.r_leS ?_
  | with_reducible refine Hj.r_mkM ?_
  | with_reducible refine Hj.r_part ?_
  | with_reducible refine Hj.r_partI ?_
  | with_reducible refine Hj.r_m1 ?_
  | with_reducible refine Hj.r_strs ?_
  | with_reducible refine Hj.r_andV ?_
  | with_reducible refine Hj.r_orV ?_
  | with_reducible refine Hj.r_notV ?_
  | with_reducible refine Hj.r_for ?_
  | with_reducible refine Hj.r_rng ?_
  | with_reducible refine Hj.r_itL ?_
  | with_reducible refine Hj.r_itT ?_
  | with_reducible refine Hj.r_itS ?_
  | with_reducible refine Hj.r_itSE ?_))
local macro_rules | `(tactic| walk_at "rk") => `(tactic| repeat (first
  | with_reducible refine Hj.r_seq ?_
  | with_reducible refine Hj.r_nx ?_
  | with_reducible refine Hj.r_rt ?_
  | with_reducible refine L2.iteT ?_
  | with_reducible refine L2.iteF ?_
  | with_reducible refine Hj.r_set ?_
  | with_reducible refine Hj.r_gname ?_
  | with_reducible refine Hj.r_if ?_
  | with_reducible refine Hj.r_ret ?_
  | ((with_reducible show L2.tVar _ _ _ _); refine Hj.r_var rfl ?_)
  | with_reducible refine Hj.r_c ?_
  | with_reducible refine Hj.r_cons ?_
  | with_reducible refine Hj.r_nil ?_
  | with_reducible refine Hj.r_op ?_
  | with_reducible refine Hj.r_test ?_
  | with_reducible refine Hj.r_B ?_
  | with_reducible refine Hj.r_cb ?_
  | with_reducible refine Hj.r_blV ?_
  | with_reducible refine Hj.r_and ?_
  | with_reducible refine Hj.r_or ?_
  | with_reducible refine Hj.r_not ?_
  | with_reducible refine Hj.r_call ?_
  | with_reducible refine Hj.r_tupK ?_
  | with_reducible refine Hj.r_lstK ?_
  | with_reducible refine Hj.r_eqS ?_
  | with_reducible refine Hj.r_eqI ?_
  | with_reducible refine Hj.r_neS ?_
  | with_reducible refine Hj.r_neI ?_
  | with_reducible refine Hj.r_isN ?_
  | with_reducible refine Hj.r_I0 ?_
  | with_reducible refine Hj.r_addI ?_
  | with_reducible refine Hj.r_intOf ?_
  | with_reducible refine Hj.r_mx ?_
  | with_reducible refine Hj.r_un ?_
  | with_reducible refine Hj.r_neg ?_
  | with_reducible refine Hj.r_drop ?_
  | with_reducible refine Hj.r_next ?_
  | with_reducible refine Hj.r_retN ?_
  | with_reducible refine Hj.r_sub ?_
  | with_reducible refine Hj.r_asg ?_
  | with_reducible refine Hj.r_bm ?_
  | with_reducible refine Hj.r_bm0 ?_
  | with_reducible refine Hj.r_meth ?_
  | with_reducible refine Hj.r_make ?_
  | with_reducible refine Hj.r_fldK ?_
  | with_reducible refine Hj.r_setK ?_
  | with_reducible refine Hj.r_sl ?_
  | with_reducible refine Hj.r_no ?_
  | with_reducible refine Hj.r_mkB ?_
  | with_reducible refine Hj.r_chain ?_
  | with_reducible refine Hj.r_leS ?_
  | with_reducible refine Hj.r_mkM ?_
  | with_reducible refine Hj.r_part ?_
  | with_reducible refine Hj.r_partI ?_
  | with_reducible refine Hj.r_m1 ?_
  | with_reducible refine Hj.r_strs ?_
  | with_reducible refine Hj.r_andV ?_
  | with_reducible refine Hj.r_orV ?_
  | with_reducible refine Hj.r_notV ?_
  | with_reducible refine Hj.r_for ?_
  | with_reducible refine Hj.r_rng ?_
  | with_reducible refine Hj.r_itL ?_
  | with_reducible refine Hj.r_itT ?_
  | with_reducible refine Hj.r_itS ?_
  | with_reducible refine Hj.r_itSE ?_))
local macro_rules | `(tactic| walk_at "cl") => `(tactic| ((try dsimp only [L2.cxOf, L2.Cx.nox]); simp only [L2.start, List.map, List.length, List.replicate, List.cons_append, List.nil_append, Nat.reduceAdd, Nat.reduceSub]))
local macro_rules | `(tactic| walk_at "len") => `(tactic| (intro vs H Q E h; first
  | (obtain ⟨_, ee, _⟩ := h; subst ee; rfl) | (obtain ⟨_, _, ee, _⟩ := h; subst ee; rfl) | (obtain ⟨_, _, _, ee, _⟩ := h; subst ee; rfl) | (obtain ⟨_, _, _, _, ee, _⟩ := h; subst ee; rfl) | (obtain ⟨_, _, _, _, _, ee, _⟩ := h; subst ee; rfl) | (obtain ⟨_, _, _, _, _, _, ee, _⟩ := h; subst ee; rfl)
  | (obtain ⟨_, _, _, _, _, _, _, ee, _⟩ := h; subst ee; rfl) | (obtain ⟨_, _, _, _, _, _, _, _, ee, _⟩ := h; subst ee; rfl) | (obtain ⟨_, _, _, _, _, _, _, _, _, ee, _⟩ := h; subst ee; rfl) | (obtain ⟨_, _, _, _, _, _, _, _, _, _, ee, _⟩ := h; subst ee; rfl)))
namespace Hj
open PySem PySem.Spec L2
/-! ### what the caught error tells -/
section
variable {P : Program} {w : World} {K : PySem.W.Frag} {mg : Str → Option Value} {base : Heap}
theorem okE {CX : CXT} {x qual : Str} {st : Stmt} {f : Addr} {fd : FuncData} {N ps : List Str} {k : Nat} {sp : Addr × Obj → Sp} (F : Fun K x qual st f fd) (S : FnScope N ps (defScope st)) (len : ∀ p vs H Q E, sp p vs H Q E → vs.length = ps.length)
    (hbody : ∀ (cdv : Value) (A : Around) (outer : List Env) (s : Shared) (H : Hp) (vs : List V) (Q : VK) (E : XK) (p : Addr × Obj), L2H.RoomH k (A.deeper (PyProof.Rows.envOfC qual (defScope st) s.heap.objs.size f cdv)) → sp p vs H Q E →
      ∃ t, PSs (L2H.cxH CX P w K mg base N qual (defScope st) f cdv A outer s H E p) (defBody st) t ∧ t { nx := fun _ H' => Q .non H', rt := Q } (L2.start N vs) H) : FnE P w K mg base CX (k + 1) f fd ps sp := by
  obtain ⟨oc, od, kV, doc, pm, an, cdv, ct, osl, rfl, lk, hcd⟩ := F.ex
  exact fn_ofE lk hcd S len fun A outer s H vs Q E p hr hsp => hbody cdv A outer s H vs Q E p hr hsp
theorem r_isX {D dd a C : Addr} {fs : List (Str × V)} {H : Hp} {Q : VK} {b : Bool} (h : H dd = some (.xd fs)) (e : PySem.W.kitOne K (.ref D) (.ref C) = some b) (q : Q (.bl b) H) : rIsX K D dd a fs [.ref a, .ref C] H Q := ⟨.ref C, .ref C, b, rfl, h, fun u r => r, e, q⟩
theorem r_isXT {D dd a : Addr} {T : String} {fs : List (Str × V)} {H : Hp} {Q : VK} {b : Bool} (h : H dd = some (.xd fs)) (e : PySem.W.kitOne K (.ref D) (.type T) = some b) (q : Q (.bl b) H) : rIsX K D dd a fs [.ref a, .ty T] H Q := ⟨.ty T, .type T, b, rfl, h, fun u r => r, e, q⟩
def xgR (a dd : Addr) (fs : List (Str × V)) (f : Str) (x : V) (H : Hp) (Q : VK) : Prop := x = .ref a ∧ H dd = some (.xd fs) ∧ ∃ v, fs.lookup f = some v ∧ Q v H
theorem r_xgK {a dd : Addr} {fs : List (Str × V)} {f : Str} {te : TE} {σ : L2.St} {H : Hp} {Q : VK} (h : te σ H fun x H1 => xgR a dd fs f x H1 Q) : tXg a dd fs f te σ H Q := h
theorem r_xg {a dd : Addr} {fs : List (Str × V)} {f : Str} {v : V} {H : Hp} {Q : VK} (h : H dd = some (.xd fs)) (l : fs.lookup f = some v) (q : Q v H) : xgR a dd fs f (.ref a) H Q := ⟨rfl, h, v, l, q⟩
def spRef (K : PySem.W.Frag) (p : Addr × Obj) : Sp := fun vs H Q _ => vs = [.ref p.1] ∧ ∃ dd, (Caught p (cBT K) dd ∧ ∃ n : Int, H dd = some (.xd [(("place" : Str), .int n)]) ∧ ∀ (v : V) (H' : Hp), Dp K H' v (.tuple [.str "BadText", .int n]) → Kp [] H H' → Q v H') ∨
  (Caught p (cTM K) dd ∧ ∃ n l : Int, H dd = some (.xd [(("limit" : Str), .int l), (("count" : Str), .int n)]) ∧ ∀ (v : V) (H' : Hp), Dp K H' v (.tuple [.str "TooMany", .int n, .int l]) → Kp [] H H' → Q v H')
theorem sc_law_refusal : FnScope ["_law_error", "_law_found"] ["_law_error"] (defScope s_law_refusal) := ⟨rfl, rfl, rfl, by decide +kernel, rfl, by decide +kernel, by decide +kernel⟩
theorem ok_law_refusal {f : Addr} {fd : FuncData} (F : Fun K "_law_refusal" "_law_refusal" s_law_refusal f fd) (T : Txt P K mg) : FnE P w K mg base CX0 1 f fd ["_law_error"] (spRef K) := by
  refine okE F sc_law_refusal ?_ (fun cdv A outer s H vs Q E p hr0 h => ?_)
  · rintro p vs H Q E ⟨ee, _⟩
    subst ee
    rfl
  obtain ⟨rfl, dd, ⟨hc, n, hd, q⟩ | ⟨hc, n, l, hd, q⟩⟩ := h
  · have hp : p ∈ (L2H.cxH CX0 P w K mg base ["_law_error", "_law_found"] "_law_refusal" (defScope s_law_refusal) f cdv A outer s H E p).pn := List.mem_singleton.mpr rfl
    refine ⟨_, (pss_cons (ps_set (i := 1) sc_law_refusal.nd rfl (Or.inl rfl) (pe_lst pa_nil)) (Evl.pss_cut (ps_if (pt_val (pe_callB (call_isX (fs := [(("place" : Str), V.int n)]) T.btC hc hp) (by rfl) T.zisinstance (by decide +kernel) (pa_cons (pv 0) (pa_cons (pe_glob (v := V.ref (cBT K)) rfl T.gBadText rfl) pa_nil)))) (pss_one (ps_expr (pe_bm PySem.F.plainAttrs_list PySem.F.slot_list_append PySem.F.type_list_append mt_append (pv 1) (pa_cons (pe_tup (pa_cons pe_str (pa_cons (pe_xg (fs := [(("place" : Str), V.int n)]) T.btF hc hp T.btN (pv 0)) pa_nil))) pa_nil)))) pss_nil) (Evl.pss_cut (ps_if (pt_val (pe_callB (call_isX (fs := [(("place" : Str), V.int n)]) T.btC hc hp) (by rfl) T.zisinstance (by decide +kernel) (pa_cons (pv 0) (pa_cons (pe_glob (v := V.ref (cTM K)) rfl T.gTooMany rfl) pa_nil)))) (pss_one (ps_expr (pe_bm PySem.F.plainAttrs_list PySem.F.slot_list_append PySem.F.type_list_append mt_append (pv 1) (pa_cons (pe_tup (pa_cons pe_str (pa_cons (pe_fld (pv 0) rfl) (pa_cons (pe_fld (pv 0) rfl) pa_nil)))) pa_nil)))) pss_nil) (Evl.pss_cut (ps_if (pt_val (pe_callB (call_isX (fs := [(("place" : Str), V.int n)]) T.btC hc hp) (by rfl) T.zisinstance (by decide +kernel) (pa_cons (pv 0) (pa_cons (pe_glob (v := V.ref (He.ga K "BadSplit")) rfl T.gBadSplit rfl) pa_nil)))) (pss_one (ps_expr (pe_bm PySem.F.plainAttrs_list PySem.F.slot_list_append PySem.F.type_list_append mt_append (pv 1) (pa_cons (pe_tup (pa_cons pe_str (pa_cons (pe_fld (pv 0) rfl) pa_nil))) pa_nil)))) pss_nil) (Evl.pss_cut (ps_if (pt_val (pe_callB (call_isX (fs := [(("place" : Str), V.int n)]) T.btC hc hp) (by rfl) T.zisinstance (by decide +kernel) (pa_cons (pv 0) (pa_cons (pe_glob (v := V.ref (He.ga K "BadRow")) rfl T.gBadRow rfl) pa_nil)))) (pss_one (ps_expr (pe_bm PySem.F.plainAttrs_list PySem.F.slot_list_append PySem.F.type_list_append mt_append (pv 1) (pa_cons (pe_tup (pa_cons pe_str (pa_cons (pe_fld (pv 0) rfl) pa_nil))) pa_nil)))) pss_nil) (Evl.pss_cut (ps_if (pt_val (pe_callB (call_isX (fs := [(("place" : Str), V.int n)]) T.btC hc hp) (by rfl) T.zisinstance (by decide +kernel) (pa_cons (pv 0) (pa_cons (pe_glob (v := V.ref (He.ga K "BadName")) rfl T.gBadName rfl) pa_nil)))) (pss_one (ps_expr (pe_bm PySem.F.plainAttrs_list PySem.F.slot_list_append PySem.F.type_list_append mt_append (pv 1) (pa_cons (pe_tup (pa_cons pe_str (pa_cons (pe_fld (pv 0) rfl) pa_nil))) pa_nil)))) pss_nil) (Evl.pss_cut (ps_if (pt_val (pe_callB (call_isX (fs := [(("place" : Str), V.int n)]) T.btC hc hp) (by rfl) T.zisinstance (by decide +kernel) (pa_cons (pv 0) (pa_cons (pe_glob (v := V.ref (He.ga K "UnknownLot")) rfl T.gUnknownLot rfl) pa_nil)))) (pss_one (ps_expr (pe_bm PySem.F.plainAttrs_list PySem.F.slot_list_append PySem.F.type_list_append mt_append (pv 1) (pa_cons (pe_tup (pa_cons pe_str (pa_cons (pe_fld (pv 0) rfl) pa_nil))) pa_nil)))) pss_nil) (pss_cons (ps_if (PW.pt (pw_or (pt_cmpR op_ne (pe_callB call_lenA (by rfl) T.zlen (by decide +kernel) (pa_cons (pv 1) pa_nil)) pe_int (nomark _)) (pw_or1 (pt_not (pt_val (pe_callB (call_isX (fs := [(("place" : Str), V.int n)]) T.btC hc hp) (by rfl) T.zisinstance (by decide +kernel) (pa_cons (pv 0) (pa_cons (pe_bltn (v := .ty "ValueError") rfl T.zValueError (by decide +kernel) rfl) pa_nil)))))))) (pss_one (ps_ret (pe_tup (pa_cons pe_str (pa_cons (pe_callB call_lenA (by rfl) T.zlen (by decide +kernel) (pa_cons (pv 1) pa_nil)) pa_nil))))) pss_nil) (pss_one (ps_ret (pe_ix ix_seq (pv 1) pe_int (fun _ _ => rfl)))))))))))), ?_⟩
    walk_at "cl"
    walk_at "rk"
    refine r_newL (by simp) fun pf H1 n1 k1 e1 => ?_
    have nd : pf ≠ dd := fun e => by
      rw [e, hd] at n1
      cases n1
    have hd1 := k1.get hd (by simp)
    walk_at "rk"
    refine r_cut (fun σ' H' => σ' = [some (.ref p.1), some (.ref pf)] ∧ ∃ pt, H' pf = some (.lst [.ref pt]) ∧ H' pt = some (.tup [.str "BadText", .int n]) ∧ H' dd = some (.xd [(("place" : Str), .int n)]) ∧ Kp [] H H') ?_ ?_
    · walk_at "rk"
      refine r_isX hd1 T.bt1 ?_
      walk_at "rk"
      refine r_tyL (SqL.of e1) ?_
      walk_at "rk"
      refine r_xgK ?_
      walk_at "rk"
      refine r_xg hd1 rfl ?_
      walk_at "rk"
      refine r_newT (by simp) fun pt H2 n2 k2 e2 => ?_
      walk_at "rk"
      refine r_appK (k2.get e1 (by simp)) (by simp) fun H3 k3 e3 => ?_
      refine ⟨rfl, pt, e3, k3.tup e2, k3.get (k2.get hd1 (by simp)) (by simpa using Ne.symm nd), (k1.trans k2).young k3 fun b hb => by rw [List.mem_singleton.mp hb]; exact n1⟩
    rintro σ' H1 ⟨rfl, pt, g1, g2, g3, g4⟩
    walk_at "rk"
    refine r_cut (fun σ' H' => σ' = [some (.ref p.1), some (.ref pf)] ∧ H1 = H') ?_ ?_
    · walk_at "rk"
      refine r_isX g3 T.bt2 ?_
      walk_at "rk"
      exact ⟨rfl, rfl⟩
    rintro σ' H' ⟨rfl, rfl⟩
    walk_at "rk"
    refine r_cut (fun σ' H' => σ' = [some (.ref p.1), some (.ref pf)] ∧ H1 = H') ?_ ?_
    · walk_at "rk"
      refine r_isX g3 T.bt3 ?_
      walk_at "rk"
      exact ⟨rfl, rfl⟩
    rintro σ' H' ⟨rfl, rfl⟩
    walk_at "rk"
    refine r_cut (fun σ' H' => σ' = [some (.ref p.1), some (.ref pf)] ∧ H1 = H') ?_ ?_
    · walk_at "rk"
      refine r_isX g3 T.bt4 ?_
      walk_at "rk"
      exact ⟨rfl, rfl⟩
    rintro σ' H' ⟨rfl, rfl⟩
    walk_at "rk"
    refine r_cut (fun σ' H' => σ' = [some (.ref p.1), some (.ref pf)] ∧ H1 = H') ?_ ?_
    · walk_at "rk"
      refine r_isX g3 T.bt5 ?_
      walk_at "rk"
      exact ⟨rfl, rfl⟩
    rintro σ' H' ⟨rfl, rfl⟩
    walk_at "rk"
    refine r_cut (fun σ' H' => σ' = [some (.ref p.1), some (.ref pf)] ∧ H1 = H') ?_ ?_
    · walk_at "rk"
      refine r_isX g3 T.bt6 ?_
      walk_at "rk"
      exact ⟨rfl, rfl⟩
    rintro σ' H' ⟨rfl, rfl⟩
    walk_at "rk"
    refine r_lenL (SqL.of g1) ?_
    walk_at "rk"
    refine r_F (by simp) ?_
    walk_at "rk"
    refine r_isXT g3 T.bt7 ?_
    walk_at "rk"
    refine r_F rfl ?_
    walk_at "rk"
    refine r_ixL (v := .ref pt) (SqL.of g1) (atI_nat (j := 0) rfl) ?_
    exact q _ _ (dp_tup g2 (.cons (.str _) (.cons (.int _) .nil))) g4
  · have hp : p ∈ (L2H.cxH CX0 P w K mg base ["_law_error", "_law_found"] "_law_refusal" (defScope s_law_refusal) f cdv A outer s H E p).pn := List.mem_singleton.mpr rfl
    refine ⟨_, (pss_cons (ps_set (i := 1) sc_law_refusal.nd rfl (Or.inl rfl) (pe_lst pa_nil)) (Evl.pss_cut (ps_if (pt_val (pe_callB (call_isX (fs := [(("limit" : Str), V.int l), (("count" : Str), V.int n)]) T.tmC hc hp) (by rfl) T.zisinstance (by decide +kernel) (pa_cons (pv 0) (pa_cons (pe_glob (v := V.ref (cBT K)) rfl T.gBadText rfl) pa_nil)))) (pss_one (ps_expr (pe_bm PySem.F.plainAttrs_list PySem.F.slot_list_append PySem.F.type_list_append mt_append (pv 1) (pa_cons (pe_tup (pa_cons pe_str (pa_cons (pe_fld (pv 0) rfl) pa_nil))) pa_nil)))) pss_nil) (Evl.pss_cut (ps_if (pt_val (pe_callB (call_isX (fs := [(("limit" : Str), V.int l), (("count" : Str), V.int n)]) T.tmC hc hp) (by rfl) T.zisinstance (by decide +kernel) (pa_cons (pv 0) (pa_cons (pe_glob (v := V.ref (cTM K)) rfl T.gTooMany rfl) pa_nil)))) (pss_one (ps_expr (pe_bm PySem.F.plainAttrs_list PySem.F.slot_list_append PySem.F.type_list_append mt_append (pv 1) (pa_cons (pe_tup (pa_cons pe_str (pa_cons (pe_xg (fs := [(("limit" : Str), V.int l), (("count" : Str), V.int n)]) T.tmF hc hp T.tmN (pv 0)) (pa_cons (pe_xg (fs := [(("limit" : Str), V.int l), (("count" : Str), V.int n)]) T.tmF hc hp T.tmL (pv 0)) pa_nil)))) pa_nil)))) pss_nil) (Evl.pss_cut (ps_if (pt_val (pe_callB (call_isX (fs := [(("limit" : Str), V.int l), (("count" : Str), V.int n)]) T.tmC hc hp) (by rfl) T.zisinstance (by decide +kernel) (pa_cons (pv 0) (pa_cons (pe_glob (v := V.ref (He.ga K "BadSplit")) rfl T.gBadSplit rfl) pa_nil)))) (pss_one (ps_expr (pe_bm PySem.F.plainAttrs_list PySem.F.slot_list_append PySem.F.type_list_append mt_append (pv 1) (pa_cons (pe_tup (pa_cons pe_str (pa_cons (pe_fld (pv 0) rfl) pa_nil))) pa_nil)))) pss_nil) (Evl.pss_cut (ps_if (pt_val (pe_callB (call_isX (fs := [(("limit" : Str), V.int l), (("count" : Str), V.int n)]) T.tmC hc hp) (by rfl) T.zisinstance (by decide +kernel) (pa_cons (pv 0) (pa_cons (pe_glob (v := V.ref (He.ga K "BadRow")) rfl T.gBadRow rfl) pa_nil)))) (pss_one (ps_expr (pe_bm PySem.F.plainAttrs_list PySem.F.slot_list_append PySem.F.type_list_append mt_append (pv 1) (pa_cons (pe_tup (pa_cons pe_str (pa_cons (pe_fld (pv 0) rfl) pa_nil))) pa_nil)))) pss_nil) (Evl.pss_cut (ps_if (pt_val (pe_callB (call_isX (fs := [(("limit" : Str), V.int l), (("count" : Str), V.int n)]) T.tmC hc hp) (by rfl) T.zisinstance (by decide +kernel) (pa_cons (pv 0) (pa_cons (pe_glob (v := V.ref (He.ga K "BadName")) rfl T.gBadName rfl) pa_nil)))) (pss_one (ps_expr (pe_bm PySem.F.plainAttrs_list PySem.F.slot_list_append PySem.F.type_list_append mt_append (pv 1) (pa_cons (pe_tup (pa_cons pe_str (pa_cons (pe_fld (pv 0) rfl) pa_nil))) pa_nil)))) pss_nil) (Evl.pss_cut (ps_if (pt_val (pe_callB (call_isX (fs := [(("limit" : Str), V.int l), (("count" : Str), V.int n)]) T.tmC hc hp) (by rfl) T.zisinstance (by decide +kernel) (pa_cons (pv 0) (pa_cons (pe_glob (v := V.ref (He.ga K "UnknownLot")) rfl T.gUnknownLot rfl) pa_nil)))) (pss_one (ps_expr (pe_bm PySem.F.plainAttrs_list PySem.F.slot_list_append PySem.F.type_list_append mt_append (pv 1) (pa_cons (pe_tup (pa_cons pe_str (pa_cons (pe_fld (pv 0) rfl) pa_nil))) pa_nil)))) pss_nil) (pss_cons (ps_if (PW.pt (pw_or (pt_cmpR op_ne (pe_callB call_lenA (by rfl) T.zlen (by decide +kernel) (pa_cons (pv 1) pa_nil)) pe_int (nomark _)) (pw_or1 (pt_not (pt_val (pe_callB (call_isX (fs := [(("limit" : Str), V.int l), (("count" : Str), V.int n)]) T.tmC hc hp) (by rfl) T.zisinstance (by decide +kernel) (pa_cons (pv 0) (pa_cons (pe_bltn (v := .ty "ValueError") rfl T.zValueError (by decide +kernel) rfl) pa_nil)))))))) (pss_one (ps_ret (pe_tup (pa_cons pe_str (pa_cons (pe_callB call_lenA (by rfl) T.zlen (by decide +kernel) (pa_cons (pv 1) pa_nil)) pa_nil))))) pss_nil) (pss_one (ps_ret (pe_ix ix_seq (pv 1) pe_int (fun _ _ => rfl)))))))))))), ?_⟩
    walk_at "cl"
    walk_at "rk"
    refine r_newL (by simp) fun pf H1 n1 k1 e1 => ?_
    have nd : pf ≠ dd := fun e => by
      rw [e, hd] at n1
      cases n1
    have hd1 := k1.get hd (by simp)
    walk_at "rk"
    refine r_cut (fun σ' H' => σ' = [some (.ref p.1), some (.ref pf)] ∧ H1 = H') ?_ ?_
    · walk_at "rk"
      refine r_isX hd1 T.tm1 ?_
      walk_at "rk"
      exact ⟨rfl, rfl⟩
    rintro σ' H' ⟨rfl, rfl⟩
    walk_at "rk"
    refine r_cut (fun σ' H' => σ' = [some (.ref p.1), some (.ref pf)] ∧ ∃ pt, H' pf = some (.lst [.ref pt]) ∧ H' pt = some (.tup [.str "TooMany", .int n, .int l]) ∧ H' dd = some (.xd [(("limit" : Str), .int l), (("count" : Str), .int n)]) ∧ Kp [] H H') ?_ ?_
    · walk_at "rk"
      refine r_isX hd1 T.tm2 ?_
      walk_at "rk"
      refine r_tyL (SqL.of e1) ?_
      walk_at "rk"
      refine r_xgK ?_
      walk_at "rk"
      refine r_xg hd1 rfl ?_
      walk_at "rk"
      refine r_xgK ?_
      walk_at "rk"
      refine r_xg hd1 rfl ?_
      walk_at "rk"
      refine r_newT (by simp) fun pt H2 n2 k2 e2 => ?_
      walk_at "rk"
      refine r_appK (k2.get e1 (by simp)) (by simp) fun H3 k3 e3 => ?_
      refine ⟨rfl, pt, e3, k3.tup e2, k3.get (k2.get hd1 (by simp)) (by simpa using Ne.symm nd), (k1.trans k2).young k3 fun b hb => by rw [List.mem_singleton.mp hb]; exact n1⟩
    clear e1 k1 hd1
    rintro σ' H1 ⟨rfl, pt, g1, g2, g3, g4⟩
    walk_at "rk"
    refine r_cut (fun σ' H' => σ' = [some (.ref p.1), some (.ref pf)] ∧ H1 = H') ?_ ?_
    · walk_at "rk"
      refine r_isX g3 T.tm3 ?_
      walk_at "rk"
      exact ⟨rfl, rfl⟩
    rintro σ' H' ⟨rfl, rfl⟩
    walk_at "rk"
    refine r_cut (fun σ' H' => σ' = [some (.ref p.1), some (.ref pf)] ∧ H1 = H') ?_ ?_
    · walk_at "rk"
      refine r_isX g3 T.tm4 ?_
      walk_at "rk"
      exact ⟨rfl, rfl⟩
    rintro σ' H' ⟨rfl, rfl⟩
    walk_at "rk"
    refine r_cut (fun σ' H' => σ' = [some (.ref p.1), some (.ref pf)] ∧ H1 = H') ?_ ?_
    · walk_at "rk"
      refine r_isX g3 T.tm5 ?_
      walk_at "rk"
      exact ⟨rfl, rfl⟩
    rintro σ' H' ⟨rfl, rfl⟩
    walk_at "rk"
    refine r_cut (fun σ' H' => σ' = [some (.ref p.1), some (.ref pf)] ∧ H1 = H') ?_ ?_
    · walk_at "rk"
      refine r_isX g3 T.tm6 ?_
      walk_at "rk"
      exact ⟨rfl, rfl⟩
    rintro σ' H' ⟨rfl, rfl⟩
    walk_at "rk"
    refine r_lenL (SqL.of g1) ?_
    walk_at "rk"
    refine r_F (by simp) ?_
    walk_at "rk"
    refine r_isXT g3 T.tm7 ?_
    walk_at "rk"
    refine r_F rfl ?_
    walk_at "rk"
    refine r_ixL (v := .ref pt) (SqL.of g1) (atI_nat (j := 0) rfl) ?_
    exact q _ _ (dp_tup g2 (.cons (.str _) (.cons (.int _) (.cons (.int _) .nil)))) g4
end
end Hj
end
section
set_option Elab.async false
set_option linter.all false
set_option maxRecDepth 100000
set_option maxHeartbeats 16000000
local macro_rules | `(tactic| walk_at "rd") => `(tactic| repeat (first
  | with_reducible refine Hj.r_seq ?_
  | with_reducible refine Hj.r_nx ?_
  | with_reducible refine Hj.r_rt ?_
  | with_reducible refine L2.iteT ?_
  | with_reducible refine L2.iteF ?_
  | with_reducible refine Hj.r_set ?_
  | with_reducible refine Hj.r_gname ?_
  | with_reducible refine Hj.r_if ?_
  | with_reducible refine Hj.r_ret ?_
  | ((with_reducible show L2.tVar _ _ _ _); refine Hj.r_var rfl ?_)
  | with_reducible refine Hj.r_c ?_
  | with_reducible refine Hj.r_cons ?_
  | with_reducible refine Hj.r_nil ?_
  | with_reducible refine Hj.r_op ?_
  | with_reducible refine Hj.r_test ?_
  | with_reducible refine Hj.r_B ?_
  | with_reducible refine Hj.r_cb ?_
  | with_reducible refine Hj.r_blV ?_
  | with_reducible refine Hj.r_and ?_
  | with_reducible refine Hj.r_or ?_
  | with_reducible refine Hj.r_not ?_
  | with_reducible refine Hj.r_call ?_
  | with_reducible refine Hj.r_tup ?_
  | with_reducible refine Hj.r_lst ?_
  | with_reducible refine Hj.r_eqS ?_
  | with_reducible refine Hj.r_eqI ?_
  | with_reducible refine Hj.r_neS ?_
  | with_reducible refine Hj.r_neI ?_
  | with_reducible refine Hj.r_isN ?_
  | with_reducible refine Hj.r_I0 ?_
  | with_reducible refine Hj.r_addI ?_
  | with_reducible refine Hj.r_intOf ?_
  | with_reducible refine Hj.r_mx ?_
  | with_reducible refine Hj.r_un ?_
  | with_reducible refine Hj.r_neg ?_
  | with_reducible refine Hj.r_drop ?_
  | with_reducible refine Hj.r_next ?_
  | with_reducible refine Hj.r_retN ?_
  | with_reducible refine Hj.r_sub ?_
  | with_reducible refine Hj.r_asg ?_
  | with_reducible refine Hj.r_bm ?_
  | with_reducible refine Hj.r_bm0 ?_
  | with_reducible refine Hj.r_meth ?_
  | with_reducible refine Hj.r_make ?_
  | with_reducible refine Hj.r_fldK ?_
  | with_reducible refine Hj.r_setK ?_
  | with_reducible refine Hj.r_sl ?_
  | with_reducible refine Hj.r_no ?_
  | with_reducible refine Hj.r_mkB ?_
  | with_reducible refine Hj.r_chain ?_
  | with_reducible refine Hj.r_leS ?_
  | with_reducible refine Hj.r_mkM ?_
  | with_reducible refine Hj.r_part ?_
  | with_reducible refine Hj.r_partI ?_
  | with_reducible refine Hj.r_m1 ?_
  | with_reducible refine Hj.r_strs ?_
  | with_reducible refine Hj.r_andV ?_
  | with_reducible refine Hj.r_orV ?_
  | with_reducible refine Hj.r_notV ?_
  | with_reducible refine Hj.r_for ?_
  | with_reducible refine Hj.r_rng ?_
  | with_reducible refine Hj.r_itL ?_
  | with_reducible refine Hj.r_itT ?_
  | with_reducible refine Hj.r_itS ?_
  | with_reducible refine Hj.r_itSE ?_))
local macro_rules | `(tactic| walk_at "rk") => `(tactic| repeat (first
  | with_reducible refine Hj.r_seq ?_
  | with_reducible refine Hj.r_nx ?_
  | with_reducible refine Hj.r_rt ?_
  | with_reducible refine L2.iteT ?_
  | with_reducible refine L2.iteF ?_
  | with_reducible refine Hj.r_set ?_
  | with_reducible refine Hj.r_gname ?_
  | with_reducible refine Hj.r_if ?_
  | with_reducible refine Hj.r_ret ?_
  | ((with_reducible show L2.tVar _ _ _ _); refine Hj.r_var rfl ?_)
  | with_reducible refine Hj.r_c ?_
  | with_reducible refine Hj.r_cons ?_
  | with_reducible refine Hj.r_nil ?_
  | with_reducible refine Hj.r_op ?_
  | with_reducible refine Hj.r_test ?_
  | with_reducible refine Hj.r_B ?_
  | with_reducible refine Hj.r_cb ?_
  | with_reducible refine Hj.r_blV ?_
  | with_reducible refine Hj.r_and ?_
  | with_reducible refine Hj.r_or ?_
  | with_reducible refine Hj.r_not ?_
  | with_reducible refine Hj.r_call ?_
  | with_reducible refine Hj.r_tupK ?_
  | with_reducible refine Hj.r_lstK ?_
  | with_reducible refine Hj.r_eqS ?_
  | with_reducible refine Hj.r_eqI ?_
  | with_reducible refine Hj.r_neS ?_
  | with_reducible refine Hj.r_neI ?_
  | with_reducible refine Hj.r_isN ?_
  | with_reducible refine Hj.r_I0 ?_
  | with_reducible refine Hj.r_addI ?_
  | with_reducible refine Hj.r_intOf ?_
  | with_reducible refine Hj.r_mx ?_
  | with_reducible refine Hj.r_un ?_
  | with_reducible refine Hj.r_neg ?_
  | with_reducible refine Hj.r_drop ?_
  | with_reducible refine Hj.r_next ?_
  | with_reducible refine Hj.r_retN ?_
  | with_reducible refine Hj.r_sub ?_
  | with_reducible refine Hj.r_asg ?_
  | with_reducible refine Hj.r_bm ?_
  | with_reducible refine Hj.r_bm0 ?_
  | with_reducible refine Hj.r_meth ?_
  | with_reducible refine Hj.r_make ?_
  | with_reducible refine Hj.r_fldK ?_
  | with_reducible refine Hj.r_setK ?_
  | with_reducible refine Hj.r_sl ?_
  | with_reducible refine Hj.r_no ?_
  | with_reducible refine Hj.r_mkB ?_
  | with_reducible refine Hj.r_chain ?_
  | with_reducible refine Hj.r_leS ?_
  | with_reducible refine Hj.r_mkM ?_
  | with_reducible refine Hj.r_part ?_
  | with_reducible refine Hj.r_partI ?_
  | with_reducible refine Hj.r_m1 ?_
  | with_reducible refine Hj.r_strs ?_
  | with_reducible refine Hj.r_andV ?_
  | with_reducible refine Hj.r_orV ?_
  | with_reducible refine Hj.r_notV ?_
  | with_reducible refine Hj.r_for ?_
  | with_reducible refine Hj.r_rng ?_
  | with_reducible refine Hj.r_itL ?_
  | with_reducible refine Hj.r_itT ?_
  | with_reducible refine Hj.r_itS ?_
  | with_reducible refine Hj.r_itSE ?_))
local macro_rules | `(tactic| walk_at "cl") => `(tactic| ((try dsimp only [L2.cxOf, L2.Cx.nox]); simp only [L2.start, List.map, List.length, List.replicate, List.cons_append, List.nil_append, Nat.reduceAdd, Nat.reduceSub]))
local macro_rules | `(tactic| walk_at "len") => `(tactic| (intro vs H Q E h; first
  | (obtain ⟨_, ee, _⟩ := h; subst ee; rfl) | (obtain ⟨_, _, ee, _⟩ := h; subst ee; rfl) | (obtain ⟨_, _, _, ee, _⟩ := h; subst ee; rfl) | (obtain ⟨_, _, _, _, ee, _⟩ := h; subst ee; rfl) | (obtain ⟨_, _, _, _, _, ee, _⟩ := h; subst ee; rfl) | (obtain ⟨_, _, _, _, _, _, ee, _⟩ := h; subst ee; rfl)
  | (obtain ⟨_, _, _, _, _, _, _, ee, _⟩ := h; subst ee; rfl) | (obtain ⟨_, _, _, _, _, _, _, _, ee, _⟩ := h; subst ee; rfl) | (obtain ⟨_, _, _, _, _, _, _, _, _, ee, _⟩ := h; subst ee; rfl) | (obtain ⟨_, _, _, _, _, _, _, _, _, _, ee, _⟩ := h; subst ee; rfl)))
namespace Hj
open PySem PySem.Spec L2
/-- a def that is called while an error is handled, found by its name -/
structure En (P : Program) (w : World) (K : PySem.W.Frag) (mg : Str → Option Value) (base : Heap) (CX : CXT) (k : Nat) (x : Str) (ps : List Str) (sp : Addr × Obj → Sp) : Prop where
  ex : ∃ f fd, FnE P w K mg base CX k f fd ps sp ∧ mg x = some (.ref f) ∧ PySem.W.keepIn K (.ref f) = true ∧ Binds K fd ps []
section
variable {P : Program} {w : World} {K : PySem.W.Frag} {mg : Str → Option Value} {base : Heap}
theorem Df.en {CX : CXT} {x qual : Str} {st : Stmt} {ps : List Str} {k : Nat} {sp : Addr × Obj → Sp} (D : Df K mg x qual st ps) (h : ∀ {f fd}, Fun K x qual st f fd → FnE P w K mg base CX k f fd ps sp) : En P w K mg base CX k x ps sp := by
  obtain ⟨f, fd, F, r⟩ := D.ex
  exact ⟨⟨f, fd, h F, r⟩⟩
/-! ### _law_told -/
/-- the suite: what is told of the error -/
def tSuit (K : PySem.W.Frag) : Addr → Value → Option Addr → TS := fun a cls d D σ H => ∀ oe : Obj, Zc cls d oe → (∃ vs, oe.data = .fields vs) → tRet (tCallE (spRef K) (a, oe) (fun _ => E0) (tCons (tVar 1) tNil)) D σ H
def tTold (K : PySem.W.Frag) (spP : Sp) (Wout : WX) : TS := fun D σ H => tRet (tTup (tCons (tC (.str "told")) (tCons (tCallS spP (WE (wAs K (.ref (cHE K)) 1 (tSuit K) Wout D)) (tCons (tVar 0) tNil)) tNil))) D σ H
def dTold (n : Nat) : Res → PyData
  | .told o _ _ => .tuple [.str "told", dO o]
  | r => dR n r
def spTold (K : PySem.W.Frag) : Sp := fun vs H Q _ => ∃ z : Str, vs = [.str z] ∧ z.length ≤ 100000 ∧ ∀ (v : V) (H' : Hp), Dp K H' v (dTold (wordsOf z).length (readW (wordsOf z))) → Kp [] H H' → Q v H'
theorem sc_law_told : FnScope ["_law_some_text", "e"] ["_law_some_text"] (defScope s_law_told) := ⟨rfl, rfl, rfl, by decide +kernel, rfl, by decide +kernel, by decide +kernel⟩
theorem r_callS {sp : Sp} {E : L2.St → XK} {t : TA} {σ : L2.St} {H : Hp} {Q : VK} (h : t σ H fun vs H1 => sp vs H1 Q (E σ)) : tCallS sp E t σ H Q := h
theorem r_callE {sp : Addr × Obj → Sp} {p : Addr × Obj} {E : L2.St → XK} {t : TA} {σ : L2.St} {H : Hp} {Q : VK} (h : t σ H fun vs H1 => sp p vs H1 Q (E σ)) : tCallE sp p E t σ H Q := h
theorem pss_imp {X : Cx} {body : List Stmt} {t t' : TS} (h : PSs X body t) (w : ∀ D σ H, t' D σ H → t D σ H) : PSs X body t' := ⟨fun pins s σ H D I q => h.run pins s σ H D I (w _ _ _ q)⟩
theorem ok_law_told {k : Nat} {f : Addr} {fd : FuncData} (F : Fun K "_law_told" "_law_told" s_law_told f fd) (T : Txt P K mg) (D_parse_order : Dn P w K mg base (L2.CX P w) k "parse_order" ["text"] (spParse K)) (E_law_refusal : En P w K mg base CX0 k "_law_refusal" ["_law_error"] (spRef K)) : FnOk P w K mg base CX0 (k + 1) f fd ["_law_some_text"] (spTold K) := by
  refine F.ok sc_law_told ?_ (fun cdv A outer s H vs Q E hr0 h => ?_)
  · walk_at "len"
  obtain ⟨z, rfl, hz, q⟩ := h
  obtain ⟨fP, fdP, FP, mP, kP, bP⟩ := D_parse_order.ex
  obtain ⟨fE, fdE, FE, mE, kE, bE⟩ := E_law_refusal.ex
  refine ⟨_, pss_one (ps_try_as (i := 1) (tb := fun W => tRet (tTup (tCons (tC (.str "told")) (tCons (tCallS (spParse K) (WE W) (tCons (tVar 0) tNil)) tNil)))) (ts := tSuit K) (Wout := fun _ _ _ _ => False) rfl rfl sc_law_told.nd rfl rfl ⟨rfl, by decide, Or.inl T.gHedgeError⟩ takes0
    (fun W pn xe tk _ => pss_one (ps_ret (pe_tup (pa_cons pe_str (pa_cons (by exact (pe_callS FP hr0 rfl mP kP bP (fun σ => passAt tk σ) (by exact (pa_cons (pv 0) pa_nil)))) pa_nil)))))
    (fun a oe cls d pn hz hf => pss_imp (pss_one (ps_ret (by exact (pe_callE (p := (a, oe)) (E := fun _ => E0) FE ⟨hr0.dp, hr0.un⟩ (List.mem_cons_self) rfl mE kE bE (fun σ => fun _ _ _ _ _ _ c => c.elim) (by exact (pa_cons (pv 1) pa_nil)))))) (fun D σ H w => w oe hz hf))), ?_⟩
  walk_at "cl"
  walk_at "rk"
  refine r_callS ?_
  walk_at "rk"
  refine ⟨z, rfl, hz, fun m hm => ?_, fun n hn => ?_, fun d hd => ?_, fun o n d v H1 ho dv k1 => ?_⟩
  · intro d H1 k1 e1
    refine ⟨true, T.btH, fun _ a ha oe hzc hf => ?_, fun h => by cases h⟩
    walk_at "rk"
    refine r_callE ?_
    walk_at "rk"
    refine ⟨rfl, d, .inl ⟨⟨hzc.1, hzc.2, hf⟩, _, e1, fun v H2 dv k2 => ?_⟩⟩
    exact q v H2 (by rw [hm]; exact dv) (k1.trans k2)
  · intro d H1 k1 e1
    refine ⟨true, T.tmH, fun _ a ha oe hzc hf => ?_, fun h => by cases h⟩
    walk_at "rk"
    refine r_callE ?_
    walk_at "rk"
    refine ⟨rfl, d, .inr ⟨⟨hzc.1, hzc.2, hf⟩, _, _, e1, fun v H2 dv k2 => ?_⟩⟩
    exact q v H2 (by rw [hn]; exact dv) (k1.trans k2)
  · intro d' H1 k1 e1
    refine ⟨true, T.tmH, fun _ a ha oe hzc hf => ?_, fun h => by cases h⟩
    walk_at "rk"
    refine r_callE ?_
    walk_at "rk"
    refine ⟨rfl, d', .inr ⟨⟨hzc.1, hzc.2, hf⟩, _, _, e1, fun v H2 dv k2 => ?_⟩⟩
    exact q v H2 (by rw [hd]; exact dv) (k1.trans k2)
  · walk_at "rk"
    refine r_newT (by simp) fun p2 H2 n2 k2 e2 => ?_
    exact q _ H2 (by rw [ho]; exact dp_tup e2 (.cons (.str _) (.cons (dp_keep k2 _ _ (flat_O o) dv) .nil))) (k1.trans k2)
end
end Hj
end
section
set_option Elab.async false
set_option linter.all false
set_option maxRecDepth 100000
set_option maxHeartbeats 2000000
namespace Hj
open PySem PySem.Spec L2
/-! ### texts glued: a reading -/
def joinR (K : PySem.W.Frag) (x y : V) (H : Hp) (Q : VK) : Prop := ∃ a p, ∃ ys : List Str, x = .str a ∧ [y] = [.ref p] ∧ (SqL K H p (ys.map V.str) ∨ SqT K H p (ys.map V.str)) ∧ (ys.map (·.length)).sum + ys.length * a.length ≤ 16777216 ∧ Q (.str (Txt.join a ys)) H
theorem r_joinM {σ : L2.St} {H : Hp} {ta te : TE} {Q : VK} (h : ta σ H fun x H1 => (∃ a, x = .str a) ∧ te σ H1 fun y H2 => joinR K x y H2 Q) : tM1 (fun x xs H Q => ∃ a p, ∃ ys : List Str, x = .str a ∧ xs = [.ref p] ∧ (SqL K H p (ys.map V.str) ∨ SqT K H p (ys.map V.str)) ∧ (ys.map (·.length)).sum + ys.length * a.length ≤ 16777216 ∧ Q (.str (Txt.join a ys)) H) ta te σ H Q := h
theorem r_joinS {H : Hp} {Q : VK} {a : Addr} {us : List Str} (hx : SqL K H a (us.map V.str)) (hz : sumL us + us.length ≤ 1000000) (h : Q (.str (Txt.join kSp us)) H) : joinR K (.str kSp) (.ref a) H Q := r_joinL hx hz h
end Hj
end
section
set_option Elab.async false
set_option linter.all false
set_option maxRecDepth 100000
set_option maxHeartbeats 16000000
local macro_rules | `(tactic| walk_at "rd") => `(tactic| repeat (first
  | with_reducible refine Hj.r_seq ?_
  | with_reducible refine Hj.r_nx ?_
  | with_reducible refine Hj.r_rt ?_
  | with_reducible refine L2.iteT ?_
  | with_reducible refine L2.iteF ?_
  | with_reducible refine Hj.r_set ?_
  | with_reducible refine Hj.r_gname ?_
  | with_reducible refine Hj.r_if ?_
  | with_reducible refine Hj.r_ret ?_
  | ((with_reducible show L2.tVar _ _ _ _); refine Hj.r_var rfl ?_)
  | with_reducible refine Hj.r_c ?_
  | with_reducible refine Hj.r_cons ?_
  | with_reducible refine Hj.r_nil ?_
  | with_reducible refine Hj.r_op ?_
  | with_reducible refine Hj.r_test ?_
  | with_reducible refine Hj.r_B ?_
  | with_reducible refine Hj.r_cb ?_
  | with_reducible refine Hj.r_blV ?_
  | with_reducible refine Hj.r_and ?_
  | with_reducible refine Hj.r_or ?_
  | with_reducible refine Hj.r_not ?_
  | with_reducible refine Hj.r_call ?_
  | with_reducible refine Hj.r_tup ?_
  | with_reducible refine Hj.r_lst ?_
  | with_reducible refine Hj.r_eqS ?_
  | with_reducible refine Hj.r_eqI ?_
  | with_reducible refine Hj.r_neS ?_
  | with_reducible refine Hj.r_neI ?_
  | with_reducible refine Hj.r_isN ?_
  | with_reducible refine Hj.r_I0 ?_
  | with_reducible refine Hj.r_addI ?_
  | with_reducible refine Hj.r_intOf ?_
  | with_reducible refine Hj.r_mx ?_
  | with_reducible refine Hj.r_un ?_
  | with_reducible refine Hj.r_neg ?_
  | with_reducible refine Hj.r_drop ?_
  | with_reducible refine Hj.r_next ?_
  | with_reducible refine Hj.r_retN ?_
  | with_reducible refine Hj.r_sub ?_
  | with_reducible refine Hj.r_asg ?_
  | with_reducible refine Hj.r_bm ?_
  | with_reducible refine Hj.r_bm0 ?_
  | with_reducible refine Hj.r_meth ?_
  | with_reducible refine Hj.r_make ?_
  | with_reducible refine Hj.r_fldK ?_
  | with_reducible refine Hj.r_setK ?_
  | with_reducible refine Hj.r_sl ?_
  | with_reducible refine Hj.r_no ?_
  | with_reducible refine Hj.r_mkB ?_
  | with_reducible refine Hj.r_chain ?_
  | with_reducible refine Hj.r_leS ?_
  | with_reducible refine Hj.r_mkM ?_
  | with_reducible refine Hj.r_part ?_
  | with_reducible refine Hj.r_partI ?_
  | ((with_reducible show L2.tM1 _ _ _ _ _ _); refine Hj.r_joinM ?_)
  | with_reducible refine Hj.r_m1 ?_
  | with_reducible refine Hj.r_strs ?_
  | with_reducible refine Hj.r_andV ?_
  | with_reducible refine Hj.r_orV ?_
  | with_reducible refine Hj.r_notV ?_
  | with_reducible refine Hj.r_for ?_
  | with_reducible refine Hj.r_rng ?_
  | with_reducible refine Hj.r_itL ?_
  | with_reducible refine Hj.r_itT ?_
  | with_reducible refine Hj.r_itS ?_
  | with_reducible refine Hj.r_itSE ?_))
local macro_rules | `(tactic| walk_at "rk") => `(tactic| repeat (first
  | with_reducible refine Hj.r_seq ?_
  | with_reducible refine Hj.r_nx ?_
  | with_reducible refine Hj.r_rt ?_
  | with_reducible refine L2.iteT ?_
  | with_reducible refine L2.iteF ?_
  | with_reducible refine Hj.r_set ?_
  | with_reducible refine Hj.r_gname ?_
  | with_reducible refine Hj.r_if ?_
  | with_reducible refine Hj.r_ret ?_
  | ((with_reducible show L2.tVar _ _ _ _); refine Hj.r_var rfl ?_)
  | with_reducible refine Hj.r_c ?_
  | with_reducible refine Hj.r_cons ?_
  | with_reducible refine Hj.r_nil ?_
  | with_reducible refine Hj.r_op ?_
  | with_reducible refine Hj.r_test ?_
  | with_reducible refine Hj.r_B ?_
  | with_reducible refine Hj.r_cb ?_
  | with_reducible refine Hj.r_blV ?_
  | with_reducible refine Hj.r_and ?_
  | with_reducible refine Hj.r_or ?_
  | with_reducible refine Hj.r_not ?_
  | with_reducible refine Hj.r_call ?_
  | with_reducible refine Hj.r_tupK ?_
  | with_reducible refine Hj.r_lstK ?_
  | with_reducible refine Hj.r_eqS ?_
  | with_reducible refine Hj.r_eqI ?_
  | with_reducible refine Hj.r_neS ?_
  | with_reducible refine Hj.r_neI ?_
  | with_reducible refine Hj.r_isN ?_
  | with_reducible refine Hj.r_I0 ?_
  | with_reducible refine Hj.r_addI ?_
  | with_reducible refine Hj.r_intOf ?_
  | with_reducible refine Hj.r_mx ?_
  | with_reducible refine Hj.r_un ?_
  | with_reducible refine Hj.r_neg ?_
  | with_reducible refine Hj.r_drop ?_
  | with_reducible refine Hj.r_next ?_
  | with_reducible refine Hj.r_retN ?_
  | with_reducible refine Hj.r_sub ?_
  | with_reducible refine Hj.r_asg ?_
  | with_reducible refine Hj.r_bm ?_
  | with_reducible refine Hj.r_bm0 ?_
  | with_reducible refine Hj.r_meth ?_
  | with_reducible refine Hj.r_make ?_
  | with_reducible refine Hj.r_fldK ?_
  | with_reducible refine Hj.r_setK ?_
  | with_reducible refine Hj.r_sl ?_
  | with_reducible refine Hj.r_no ?_
  | with_reducible refine Hj.r_mkB ?_
  | with_reducible refine Hj.r_chain ?_
  | with_reducible refine Hj.r_leS ?_
  | with_reducible refine Hj.r_mkM ?_
  | with_reducible refine Hj.r_part ?_
  | with_reducible refine Hj.r_partI ?_
  | ((with_reducible show L2.tM1 _ _ _ _ _ _); refine Hj.r_joinM ?_)
  | with_reducible refine Hj.r_m1 ?_
  | with_reducible refine Hj.r_strs ?_
  | with_reducible refine Hj.r_andV ?_
  | with_reducible refine Hj.r_orV ?_
  | with_reducible refine Hj.r_notV ?_
  | with_reducible refine Hj.r_for ?_
  | with_reducible refine Hj.r_rng ?_
  | with_reducible refine Hj.r_itL ?_
  | with_reducible refine Hj.r_itT ?_
  | with_reducible refine Hj.r_itS ?_
  | with_reducible refine Hj.r_itSE ?_))
local macro_rules | `(tactic| walk_at "cl") => `(tactic| ((try dsimp only [L2.cxOf, L2.Cx.nox]); simp only [L2.start, List.map, List.length, List.replicate, List.cons_append, List.nil_append, Nat.reduceAdd, Nat.reduceSub]))
local macro_rules | `(tactic| walk_at "len") => `(tactic| (intro vs H Q E h; first
  | (obtain ⟨_, ee, _⟩ := h; subst ee; rfl) | (obtain ⟨_, _, ee, _⟩ := h; subst ee; rfl) | (obtain ⟨_, _, _, ee, _⟩ := h; subst ee; rfl) | (obtain ⟨_, _, _, _, ee, _⟩ := h; subst ee; rfl) | (obtain ⟨_, _, _, _, _, ee, _⟩ := h; subst ee; rfl) | (obtain ⟨_, _, _, _, _, _, ee, _⟩ := h; subst ee; rfl)
  | (obtain ⟨_, _, _, _, _, _, _, ee, _⟩ := h; subst ee; rfl) | (obtain ⟨_, _, _, _, _, _, _, _, ee, _⟩ := h; subst ee; rfl) | (obtain ⟨_, _, _, _, _, _, _, _, _, ee, _⟩ := h; subst ee; rfl) | (obtain ⟨_, _, _, _, _, _, _, _, _, _, ee, _⟩ := h; subst ee; rfl)))
namespace Hj
open PySem PySem.Spec L2
/-! ### small data -/
theorem sm_T (t : Tst) : smD (dT t) = true := by
  unfold dT
  split <;> simp [smD, smDs]
mutual
theorem sm_S : ∀ s : Stm, cntS s ≤ 1000 → smD (dS s) = true
  | .join x y, _ => by simp [dS, smD, smDs]
  | .clear g, _ => by simp [dS, smD, smDs]
  | .ite t b o, h => by
    simp only [cntS] at h
    have h1 := len_cnt b
    have h2 := len_cnt o
    simp [dS, smD, smDs, sm_T, sm_L b (by omega), sm_L o (by omega), dL_len]
    omega
  | .wh t b, h => by
    simp only [cntS] at h
    have h1 := len_cnt b
    simp [dS, smD, smDs, sm_T, sm_L b (by omega), dL_len]
    omega
  | .each v b, h => by
    simp only [cntS] at h
    have h1 := len_cnt b
    simp [dS, smD, smDs, sm_L b (by omega), dL_len]
    omega
theorem sm_L : ∀ o : List Stm, cntO o ≤ 1000 → smDs (dL o) = true
  | [], _ => by simp [dL, smDs]
  | s :: r, h => by
    simp only [cntO] at h
    simp [dL, smDs, sm_S s (by omega), sm_L r (by omega)]
end
theorem sm_O {o : List Stm} (h : cntO o ≤ 12) : smD (dO o) = true := by
  have h1 := len_cnt o
  simp [dO, smD, dL_len, sm_L o (by omega)]
  omega
theorem dep_O {sc : List Str} {o : List Stm} (hs : ∀ z ∈ sc, isVar z = true) (ho : okO sc o) (hd : depO o ≤ 3) : (dO o).depth ≤ 10 := by
  have h := (lay_L o hs ho).2
  simp only [dO, PyData.depth]
  omega
theorem nov : ∀ z ∈ ([] : List Str), isVar z = true := fun z h => by cases h
section
variable {P : Program} {w : World} {K : PySem.W.Frag} {mg : Str → Option Value} {base : Heap}
theorem flat_dR (n : Nat) (R : Res) : flatD (dR n R) = true := by
  cases R <;> simp [dR, flatD, flatDs, flat_O]
theorem flat_dTold (n : Nat) (R : Res) : flatD (dTold n R) = true := by
  cases R <;> simp [dTold, dR, flatD, flatDs, flat_O]
/-! ### _law_text_read -/
def spTRead (K : PySem.W.Frag) : Sp := fun vs H Q _ => ∃ z : Str, vs = [.str z] ∧ z.length ≤ 100000 ∧ ∀ (v : V) (H' : Hp), Dp K H' v (dR (wordsOf z).length (readW (wordsOf z))) → Kp [] H H' → Q v H'
theorem sc_law_text_read : FnScope ["_law_some_text"] ["_law_some_text"] (defScope s_law_text_read) := ⟨rfl, rfl, rfl, by decide +kernel, rfl, by decide +kernel, by decide +kernel⟩
theorem ok_law_text_read {k : Nat} {f : Addr} {fd : FuncData} (F : Fun K "_law_text_read" "_law_text_read" s_law_text_read f fd) (T : Txt P K mg) (D_law_read : Dn P w K mg base CX0 k "_law_read" ["_law_words"] (spRead K)) : FnOk P w K mg base CX0 (k + 1) f fd ["_law_some_text"] (spTRead K) := by
  refine F.ok sc_law_text_read ?_ (fun cdv A outer s H vs Q E hr0 h => ?_)
  · walk_at "len"
  obtain ⟨z, rfl, hz, q⟩ := h
  refine ⟨_, (pss_cons (ps_if (pt_cmpR op_eq (pv 0) pe_str (nomark _)) (pss_one (ps_ret (pe_d D_law_read hr0 pass0 (pa_cons (pe_lst pa_nil) pa_nil)))) pss_nil) (pss_one (ps_ret (pe_d D_law_read hr0 pass0 (pa_cons (pe_split (pv 0) pe_str) pa_nil))))), ?_⟩
  walk_at "cl"
  walk_at "rk"
  refine r_d (fun c1 => ?_) (fun c1 => ?_)
  · have ez : wordsOf z = [] := by
      unfold wordsOf
      rw [if_pos c1]
    rw [ez] at q
    walk_at "rk"
    refine r_newL (by simp) fun p1 H1 n1 k1 e1 => ?_
    walk_at "rk"
    refine ⟨p1, [], rfl, SqL.of e1, by simp, (fun z h => by cases h), fun v H2 dv k2 => ?_⟩
    exact q v H2 dv (k1.trans k2)
  · have ez : wordsOf z = Txt.split z kSp := by
      unfold wordsOf
      rw [if_neg c1]
    rw [ez] at q
    obtain ⟨sl1, sl2⟩ := split_len z
    walk_at "rk"
    refine r_splitK (by omega) fun p1 H1 n1 k1 e1 => ?_
    walk_at "rk"
    refine ⟨p1, Txt.split z kSp, rfl, SqL.of e1, by omega, fun y hy => ?_, fun v H2 dv k2 => ?_⟩
    · have := mem_sumL hy
      omega
    · exact q v H2 dv (k1.trans k2)
/-! ### _law_written_right -/
abbrev psSame : List Str := ["_law_actual", "_law_expected"]
def spWR (K : PySem.W.Frag) : Sp := fun vs H Q _ => ∃ (st cs psz : Addr) (v : V) (o : List Stm) (sc : List Str), vs = [.ref st, v, .ref psz] ∧ StoreAt H st cs ∧ Dp K H v (dO o) ∧ okO sc o ∧ (∀ z ∈ sc, isVar z = true) ∧ cntO o ≤ 12 ∧ depO o ≤ 3 ∧ H psz = some (.lst [.int (cntO o : Nat), .int (depO o : Nat)]) ∧ psz ≠ st ∧
  ∀ H' : Hp, Kp [st] H H' → StoreAt H' st cs → Q (.bl true) H'
theorem sc_law_written_right : FnScope ["_law_store_here", "_law_some_order", "_law_sizes", "_law_written"] ["_law_store_here", "_law_some_order", "_law_sizes"] (defScope s_law_written_right) := ⟨rfl, rfl, rfl, by decide +kernel, rfl, by decide +kernel, by decide +kernel⟩
theorem ok_law_written_right {k : Nat} {f : Addr} {fd : FuncData} (F : Fun K "_law_written_right" "_law_written_right" s_law_written_right f fd) (T : Txt P K mg) (D_law_order_words : Dn P w K mg base CX0 k "_law_order_words" psOW (spOW K 3)) (D_format_order : Dn P w K mg base CX0 k "format_order" ["order"] (spFmt K)) (D_law_same : Dn P w K mg base CX0 k "_law_same" psSame (spSame K 12))
    (D_count_statements : Dn P w K mg base CX0 k "count_statements" ["order"] (spCnt K 3)) (D_depth_of : Dn P w K mg base CX0 k "depth_of" ["order"] (spDep K 3)) : FnOk P w K mg base CX0 (k + 1) f fd ["_law_store_here", "_law_some_order", "_law_sizes"] (spWR K) := by
  refine F.ok sc_law_written_right ?_ (fun cdv A outer s H vs Q E hr0 h => ?_)
  · walk_at "len"
  obtain ⟨st, cs, psz, v, o, sc, rfl, S, d0, ok0, hsc, hcn, hdp, esz, nsz, q⟩ := h
  refine ⟨_, (pss_cons (ps_set (i := 3) sc_law_written_right.nd rfl (Or.inl rfl) (pe_join pe_str (pe_d D_law_order_words hr0 pass0 (pa_cons (pv 0) (pa_cons (pv 1) (pa_cons pe_bl pa_nil)))))) (pss_cons (ps_if (pt_not (pt_val (pe_d D_law_same hr0 pass0 (pa_cons (pe_d D_format_order hr0 pass0 (pa_cons (pv 1) pa_nil)) (pa_cons (pv 3) pa_nil))))) (pss_one (ps_ret pe_bl)) pss_nil) (pss_one (ps_ret (pe_d D_law_same hr0 pass0 (pa_cons (pe_lst (pa_cons (pe_d D_count_statements hr0 pass0 (pa_cons (pv 1) pa_nil)) (pa_cons (pe_d D_depth_of hr0 pass0 (pa_cons (pv 1) pa_nil)) pa_nil))) (pa_cons (pv 2) pa_nil))))))), ?_⟩
  walk_at "cl"
  walk_at "rk"
  refine ⟨st, cs, v, o, sc, false, rfl, S, d0, ok0, hsc, hcn, hdp, by omega, fun p1 ws H1 n1 e1 w1 k1 S1 => ?_⟩
  have ew := WrO.strict w1
  subst ew
  obtain ⟨c1, c2⟩ := wO_clean hsc ok0
  have c3 := sumL_le (B := 8) fun y hy => (c1 y hy).1.2
  walk_at "rk"
  refine r_joinS (SqL.of e1) (by omega) ?_
  walk_at "rk"
  have d1 := dp_keep k1 _ _ (flat_O o) d0
  refine ⟨v, o, sc, rfl, d1, ok0, hsc, hcn, hdp, fun H2 k2 => ?_⟩
  walk_at "rk"
  refine ⟨_, _, .str (Txt.join kSp (wO o)), rfl, .str _, .str _, rfl, by simp [PyData.depth], ?_⟩
  walk_at "rk"
  refine r_F (by rfl) ?_
  walk_at "rk"
  have d2 := dp_keep k2 _ _ (flat_O o) d1
  refine ⟨v, o, rfl, d2, hdp, fun H3 k3 => ?_⟩
  walk_at "rk"
  refine ⟨v, o, rfl, dp_keep k3 _ _ (flat_O o) d2, hdp, fun H4 k4 => ?_⟩
  walk_at "rk"
  refine r_newL (by simp) fun p5 H5 n5 k5 e5 => ?_
  walk_at "rk"
  have K5 : Kp [] H1 H5 := ((k2.trans k3).trans k4).trans k5
  refine ⟨.ref p5, .ref psz, .list [.int (cntO o : Nat), .int (depO o : Nat)], rfl, .lst (SqL.of e5) (.cons (.int _) (.cons (.int _) .nil)), .lst (SqL.of (K5.get (k1.get esz (by simpa using nsz)) (by simp))) (.cons (.int _) (.cons (.int _) .nil)), by simp [smD, smDs], by simp [PyData.depth, PyData.depthAll], ?_⟩
  exact q H5 (k1.trans K5.all) (S1.keep0 K5)
/-! ### _law_text_right -/
def spTR (K : PySem.W.Frag) : Sp := fun vs H Q _ => ∃ (st cs : Addr) (z : Str), vs = [.ref st, .str z] ∧ StoreAt H st cs ∧ z.length ≤ 100000 ∧ ∀ H' : Hp, Kp [st] H H' → StoreAt H' st cs → Q (.bl true) H'
theorem str_told : ("told" : Str) ≠ "BadText" ∧ ("told" : Str) ≠ "TooMany" := by decide +kernel
theorem sc_law_text_right : FnScope ["_law_store_here", "_law_some_text", "_law_due"] ["_law_store_here", "_law_some_text"] (defScope s_law_text_right) := ⟨rfl, rfl, rfl, by decide +kernel, rfl, by decide +kernel, by decide +kernel⟩
theorem ok_law_text_right {k : Nat} {f : Addr} {fd : FuncData} (F : Fun K "_law_text_right" "_law_text_right" s_law_text_right f fd) (T : Txt P K mg) (D_law_text_read : Dn P w K mg base CX0 k "_law_text_read" ["_law_some_text"] (spTRead K)) (D_law_told : Dn P w K mg base CX0 k "_law_told" ["_law_some_text"] (spTold K)) (D_law_same : Dn P w K mg base CX0 k "_law_same" psSame (spSame K 12))
    (D_law_written_right : Dn P w K mg base CX0 k "_law_written_right" ["_law_store_here", "_law_some_order", "_law_sizes"] (spWR K)) (D_parse_order : Dn P w K mg base (L2.CX P w) k "parse_order" ["text"] (spParse K)) (D_format_order : Dn P w K mg base CX0 k "format_order" ["order"] (spFmt K)) : FnOk P w K mg base CX0 (k + 1) f fd ["_law_store_here", "_law_some_text"] (spTR K) := by
  refine F.ok sc_law_text_right ?_ (fun cdv A outer s H vs Q E hr0 h => ?_)
  · walk_at "len"
  obtain ⟨st, cs, z, rfl, S, hz, q⟩ := h
  refine ⟨_, (pss_cons (ps_set (i := 2) sc_law_text_right.nd rfl (Or.inl rfl) (pe_d D_law_text_read hr0 pass0 (pa_cons (pv 1) pa_nil))) (pss_cons (ps_if (pt_cmpR op_ne (pe_ix ix_seq (pv 2) pe_int (fun _ _ => rfl)) pe_str (nomark _)) (pss_one (ps_ret (pe_d D_law_same hr0 pass0 (pa_cons (pe_d D_law_told hr0 pass0 (pa_cons (pv 1) pa_nil)) (pa_cons (pv 2) pa_nil))))) pss_nil) (pss_cons (ps_if (PW.pt (pw_or (pt_not (pt_val (pe_d D_law_same hr0 pass0 (pa_cons (pe_d D_law_told hr0 pass0 (pa_cons (pv 1) pa_nil)) (pa_cons (pe_slice slAny (pv 2) po_none (po_some pe_int)) pa_nil))))) (pw_or1 (pt_not (pt_val (pe_d D_law_written_right hr0 pass0 (pa_cons (pv 0) (pa_cons (pe_ix ix_seq (pv 2) pe_int (fun _ _ => rfl)) (pa_cons (pe_lst (pa_cons (pe_ix ix_seq (pv 2) pe_int (fun _ _ => rfl)) (pa_cons (pe_ix ix_seq (pv 2) pe_int (fun _ _ => rfl)) pa_nil))) pa_nil))))))))) (pss_one (ps_ret pe_bl)) pss_nil) (pss_one (ps_ret (pe_d D_law_same hr0 pass0 (pa_cons (pe_d D_parse_order hr0 (passes_call (E := E0) takes0 (fun _ _ _ _ z => z)) (pa_cons (pe_d D_format_order hr0 pass0 (pa_cons (pe_ix ix_seq (pv 2) pe_int (fun _ _ => rfl)) pa_nil)) pa_nil)) (pa_cons (pe_ix ix_seq (pv 2) pe_int (fun _ _ => rfl)) pa_nil)))))))), ?_⟩
  walk_at "cl"
  walk_at "rk"
  refine ⟨z, rfl, hz, fun v H1 dv k1 => ?_⟩
  have bad : ∀ (g : Str) (ds : List PyData), Dp K H1 v (.tuple (.str g :: ds)) → ∃ p xs, v = .ref p ∧ SqT K H1 p (.str g :: xs) := fun g ds d => by
    obtain ⟨p, xs, rfl, h1, h2⟩ := dp_tupI d
    obtain ⟨y, ys, rfl, h3, h4⟩ := dps_consI h2
    rw [dp_strI h3] at h1
    exact ⟨p, ys, rfl, h1⟩
  walk_at "rk"
  cases hR : readW (wordsOf z) with
  | bad m =>
    rw [hR] at dv
    obtain ⟨p, xs, rfl, h1⟩ := bad _ _ dv
    refine r_ixT (v := .str "BadText") h1 (atI_nat (j := 0) rfl) ?_
    walk_at "rk"
    refine r_T (by decide +kernel) ?_
    walk_at "rk"
    refine ⟨z, rfl, hz, fun u H2 du k2 => ?_⟩
    rw [hR] at du
    walk_at "rk"
    refine ⟨u, .ref p, _, rfl, du, dp_keep k2 _ _ (flat_dTold _ _) dv, by simp [dR, dTold, smD, smDs], by simp [dR, dTold, PyData.depth, PyData.depthAll], ?_⟩
    exact q H2 (k1.trans k2).all (S.keep0 (k1.trans k2))
  | many m =>
    rw [hR] at dv
    obtain ⟨p, xs, rfl, h1⟩ := bad _ _ dv
    refine r_ixT (v := .str "TooMany") h1 (atI_nat (j := 0) rfl) ?_
    walk_at "rk"
    refine r_T (by decide +kernel) ?_
    walk_at "rk"
    refine ⟨z, rfl, hz, fun u H2 du k2 => ?_⟩
    rw [hR] at du
    walk_at "rk"
    refine ⟨u, .ref p, _, rfl, du, dp_keep k2 _ _ (flat_dTold _ _) dv, by simp [dR, dTold, smD, smDs], by simp [dR, dTold, PyData.depth, PyData.depthAll], ?_⟩
    exact q H2 (k1.trans k2).all (S.keep0 (k1.trans k2))
  | deep m =>
    rw [hR] at dv
    obtain ⟨p, xs, rfl, h1⟩ := bad _ _ dv
    refine r_ixT (v := .str "TooMany") h1 (atI_nat (j := 0) rfl) ?_
    walk_at "rk"
    refine r_T (by decide +kernel) ?_
    walk_at "rk"
    refine ⟨z, rfl, hz, fun u H2 du k2 => ?_⟩
    rw [hR] at du
    walk_at "rk"
    refine ⟨u, .ref p, _, rfl, du, dp_keep k2 _ _ (flat_dTold _ _) dv, by simp [dR, dTold, smD, smDs], by simp [dR, dTold, PyData.depth, PyData.depthAll], ?_⟩
    exact q H2 (k1.trans k2).all (S.keep0 (k1.trans k2))
  | told o n d =>
    rw [hR] at dv
    obtain ⟨ok0, rfl, rfl, hcn, hdp⟩ := read_ok hR
    obtain ⟨p, xs, rfl, h1, h2⟩ := dp_tupI dv
    obtain ⟨y1, ys1, rfl, g1, h3⟩ := dps_consI h2
    obtain ⟨y2, ys2, rfl, g2, h4⟩ := dps_consI h3
    obtain ⟨y3, ys3, rfl, g3, h5⟩ := dps_consI h4
    obtain ⟨y4, ys4, rfl, g4, h6⟩ := dps_consI h5
    obtain rfl := dps_nilI h6
    obtain rfl := dp_strI g1
    cases g3
    cases g4
    refine r_ixT h1 (atI_nat (j := 0) rfl) ?_
    walk_at "rk"
    refine r_F (by decide +kernel) ?_
    walk_at "rk"
    refine ⟨z, rfl, hz, fun u H2 du k2 => ?_⟩
    rw [hR] at du
    walk_at "rk"
    refine r_slT (k2.sqT h1) (fun h => absurd (show HT.sIx 4 4 (some 2) = 4 from h.2) (by decide)) fun p3 n3 => ?_
    have k3 : Kp [] H2 (upd H2 p3 (.tup (cutV [V.str "told", y2, .int (cntO o : Nat), .int (depO o : Nat)] none (some 2)))) := Kp.new n3
    have e3 : (upd H2 p3 (.tup (cutV [V.str "told", y2, .int (cntO o : Nat), .int (depO o : Nat)] none (some 2)))) p3 = some (.tup [V.str "told", y2]) := upd_same
    generalize (upd H2 p3 (.tup (cutV [V.str "told", y2, .int (cntO o : Nat), .int (depO o : Nat)] none (some 2)))) = H3 at k3 e3
    have K3 := k2.trans k3
    have dp1 := dep_O nov ok0 hdp
    have sm1 := sm_O hcn
    have g23 := dp_keep K3 _ _ (flat_O o) g2
    walk_at "rk"
    refine ⟨u, .ref p3, .tuple [.str "told", dO o], rfl, dp_keep k3 _ _ (flat_dTold (wordsOf z).length (.told o (cntO o) (depO o))) du, dp_tup e3 (.cons (.str _) (.cons g23 .nil)), by simp [smD, smDs, sm1], by simp only [PyData.depth, PyData.depthAll]; omega, ?_⟩
    walk_at "rk"
    refine r_F (by rfl) ?_
    walk_at "rk"
    refine r_ixT (K3.sqT h1) (atI_nat (j := 1) rfl) ?_
    walk_at "rk"
    refine r_ixT (K3.sqT h1) (atI_nat (j := 2) rfl) ?_
    walk_at "rk"
    refine r_ixT (K3.sqT h1) (atI_nat (j := 3) rfl) ?_
    walk_at "rk"
    refine r_newL (by simp) fun p4 H4 n4 k4 e4 => ?_
    have K4 := (k1.trans K3).trans k4
    have S4 := S.keep0 K4
    have np4 : p4 ≠ st := ((S.keep0 (k1.trans K3)).ne n4).1.symm
    have g24 := dp_keep k4 _ _ (flat_O o) g23
    walk_at "rk"
    refine ⟨st, cs, p4, y2, o, [], rfl, S4, g24, ok0, nov, hcn, hdp, e4, np4, fun H5 k5 S5 => ?_⟩
    walk_at "rk"
    refine r_F (by rfl) ?_
    walk_at "rk"
    have K35 : Kp [st] H1 H5 := (K3.trans k4).all.trans k5
    have g25 := dp_keep k5 _ _ (flat_O o) g24
    refine r_ixT (K35.sqT h1) (atI_nat (j := 1) rfl) ?_
    walk_at "rk"
    refine ⟨y2, o, [], rfl, g25, ok0, nov, hcn, hdp, fun H6 k6 => ?_⟩
    walk_at "rk"
    obtain ⟨c1, c2⟩ := wO_clean nov ok0
    have c3 := sumL_le (B := 8) fun y hy => (c1 y hy).1.2
    have c4 := join_len kSp (wO o)
    rw [len_sp] at c4
    have ew := wordsOf_clean c1
    have er := read_back (strO o) ok0 hcn hdp
    refine ⟨Txt.join kSp (wO o), rfl, by omega, ?_⟩
    rw [ew]
    refine ⟨fun m hm => ?_, fun n hn => ?_, fun d hd => ?_, fun o' n d v' H7 ho dv' k7 => ?_⟩
    · rw [er] at hm
      cases hm
    · rw [er] at hn
      cases hn
    · rw [er] at hd
      cases hd
    rw [er] at ho
    obtain ⟨rfl, _, _⟩ := Res.told.inj ho
    walk_at "rk"
    have K67 := k6.trans k7
    refine r_ixT (K67.sqT (K35.sqT h1)) (atI_nat (j := 1) rfl) ?_
    walk_at "rk"
    refine ⟨v', y2, dO o, rfl, dv', dp_keep K67 _ _ (flat_O o) g25, sm1, by omega, ?_⟩
    exact q H7 ((k1.all.trans K35).trans K67.all) (S5.keep0 K67)
end
end Hj
end
section
set_option Elab.async false
set_option linter.all false
set_option maxRecDepth 100000
set_option maxHeartbeats 16000000
local macro_rules | `(tactic| walk_at "rd") => `(tactic| repeat (first
  | with_reducible refine Hj.r_seq ?_
  | with_reducible refine Hj.r_nx ?_
  | with_reducible refine Hj.r_rt ?_
  | with_reducible refine L2.iteT ?_
  | with_reducible refine L2.iteF ?_
  | with_reducible refine Hj.r_set ?_
  | with_reducible refine Hj.r_gname ?_
  | with_reducible refine Hj.r_if ?_
  | with_reducible refine Hj.r_ret ?_
  | ((with_reducible show L2.tVar _ _ _ _); refine Hj.r_var rfl ?_)
  | with_reducible refine Hj.r_c ?_
  | with_reducible refine Hj.r_cons ?_
  | with_reducible refine Hj.r_nil ?_
  | with_reducible refine Hj.r_op ?_
  | with_reducible refine Hj.r_test ?_
  | with_reducible refine Hj.r_B ?_
  | with_reducible refine Hj.r_cb ?_
  | with_reducible refine Hj.r_blV ?_
  | with_reducible refine Hj.r_and ?_
  | with_reducible refine Hj.r_or ?_
  | with_reducible refine Hj.r_not ?_
  | with_reducible refine Hj.r_call ?_
  | with_reducible refine Hj.r_tup ?_
  | with_reducible refine Hj.r_lst ?_
  | with_reducible refine Hj.r_eqS ?_
  | with_reducible refine Hj.r_eqI ?_
  | with_reducible refine Hj.r_neS ?_
  | with_reducible refine Hj.r_neI ?_
  | with_reducible refine Hj.r_isN ?_
  | with_reducible refine Hj.r_I0 ?_
  | with_reducible refine Hj.r_addI ?_
  | with_reducible refine Hj.r_intOf ?_
  | with_reducible refine Hj.r_mx ?_
  | with_reducible refine Hj.r_un ?_
  | with_reducible refine Hj.r_neg ?_
  | with_reducible refine Hj.r_drop ?_
  | with_reducible refine Hj.r_next ?_
  | with_reducible refine Hj.r_retN ?_
  | with_reducible refine Hj.r_sub ?_
  | with_reducible refine Hj.r_asg ?_
  | with_reducible refine Hj.r_bm ?_
  | with_reducible refine Hj.r_bm0 ?_
  | with_reducible refine Hj.r_meth ?_
  | with_reducible refine Hj.r_make ?_
  | with_reducible refine Hj.r_fldK ?_
  | with_reducible refine Hj.r_setK ?_
  | with_reducible refine Hj.r_sl ?_
  | with_reducible refine Hj.r_no ?_
  | with_reducible refine Hj.r_mkB ?_
  | with_reducible refine Hj.r_chain ?_
  | with_reducible refine Hj.r_leS ?_
  | with_reducible refine Hj.r_mkM ?_
  | with_reducible refine Hj.r_part ?_
  | with_reducible refine Hj.r_partI ?_
  | ((with_reducible show L2.tM1 _ _ _ _ _ _); refine Hj.r_joinM ?_)
  | with_reducible refine Hj.r_m1 ?_
  | with_reducible refine Hj.r_strs ?_
  | with_reducible refine Hj.r_andV ?_
  | with_reducible refine Hj.r_orV ?_
  | with_reducible refine Hj.r_notV ?_
  | with_reducible refine Hj.r_for ?_
  | with_reducible refine Hj.r_rng ?_
  | with_reducible refine Hj.r_itL ?_
  | with_reducible refine Hj.r_itT ?_
  | with_reducible refine Hj.r_itS ?_
  | with_reducible refine Hj.r_itSE ?_))
local macro_rules | `(tactic| walk_at "rk") => `(tactic| repeat (first
  | with_reducible refine Hj.r_seq ?_
  | with_reducible refine Hj.r_nx ?_
  | with_reducible refine Hj.r_rt ?_
  | with_reducible refine L2.iteT ?_
  | with_reducible refine L2.iteF ?_
  | with_reducible refine Hj.r_set ?_
  | with_reducible refine Hj.r_gname ?_
  | with_reducible refine Hj.r_if ?_
  | with_reducible refine Hj.r_ret ?_
  | ((with_reducible show L2.tVar _ _ _ _); refine Hj.r_var rfl ?_)
  | with_reducible refine Hj.r_c ?_
  | with_reducible refine Hj.r_cons ?_
  | with_reducible refine Hj.r_nil ?_
  | with_reducible refine Hj.r_op ?_
  | with_reducible refine Hj.r_test ?_
  | with_reducible refine Hj.r_B ?_
  | with_reducible refine Hj.r_cb ?_
  | with_reducible refine Hj.r_blV ?_
  | with_reducible refine Hj.r_and ?_
  | with_reducible refine Hj.r_or ?_
  | with_reducible refine Hj.r_not ?_
  | with_reducible refine Hj.r_call ?_
  | with_reducible refine Hj.r_tupK ?_
  | with_reducible refine Hj.r_lstK ?_
  | with_reducible refine Hj.r_eqS ?_
  | with_reducible refine Hj.r_eqI ?_
  | with_reducible refine Hj.r_neS ?_
  | with_reducible refine Hj.r_neI ?_
  | with_reducible refine Hj.r_isN ?_
  | with_reducible refine Hj.r_I0 ?_
  | with_reducible refine Hj.r_addI ?_
  | with_reducible refine Hj.r_intOf ?_
  | with_reducible refine Hj.r_mx ?_
  | with_reducible refine Hj.r_un ?_
  | with_reducible refine Hj.r_neg ?_
  | with_reducible refine Hj.r_drop ?_
  | with_reducible refine Hj.r_next ?_
  | with_reducible refine Hj.r_retN ?_
  | with_reducible refine Hj.r_sub ?_
  | with_reducible refine Hj.r_asg ?_
  | with_reducible refine Hj.r_bm ?_
  | with_reducible refine Hj.r_bm0 ?_
  | with_reducible refine Hj.r_meth ?_
  | with_reducible refine Hj.r_make ?_
  | with_reducible refine Hj.r_fldK ?_
  | with_reducible refine Hj.r_setK ?_
  | with_reducible refine Hj.r_sl ?_
  | with_reducible refine Hj.r_no ?_
  | with_reducible refine Hj.r_mkB ?_
  | with_reducible refine Hj.r_chain ?_
  | with_reducible refine Hj.r_leS ?_
  | with_reducible refine Hj.r_mkM ?_
  | with_reducible refine Hj.r_part ?_
  | with_reducible refine Hj.r_partI ?_
  | ((with_reducible show L2.tM1 _ _ _ _ _ _); refine Hj.r_joinM ?_)
  | with_reducible refine Hj.r_m1 ?_
  | with_reducible refine Hj.r_strs ?_
  | with_reducible refine Hj.r_andV ?_
  | with_reducible refine Hj.r_orV ?_
  | with_reducible refine Hj.r_notV ?_
  | with_reducible refine Hj.r_for ?_
  | with_reducible refine Hj.r_rng ?_
  | with_reducible refine Hj.r_itL ?_
  | with_reducible refine Hj.r_itT ?_
  | with_reducible refine Hj.r_itS ?_
  | with_reducible refine Hj.r_itSE ?_))
local macro_rules | `(tactic| walk_at "cl") => `(tactic| ((try dsimp only [L2.cxOf, L2.Cx.nox]); simp only [L2.start, List.map, List.length, List.replicate, List.cons_append, List.nil_append, Nat.reduceAdd, Nat.reduceSub]))
local macro_rules | `(tactic| walk_at "len") => `(tactic| (intro vs H Q E h; first
  | (obtain ⟨_, ee, _⟩ := h; subst ee; rfl) | (obtain ⟨_, _, ee, _⟩ := h; subst ee; rfl) | (obtain ⟨_, _, _, ee, _⟩ := h; subst ee; rfl) | (obtain ⟨_, _, _, _, ee, _⟩ := h; subst ee; rfl) | (obtain ⟨_, _, _, _, _, ee, _⟩ := h; subst ee; rfl) | (obtain ⟨_, _, _, _, _, _, ee, _⟩ := h; subst ee; rfl)
  | (obtain ⟨_, _, _, _, _, _, _, ee, _⟩ := h; subst ee; rfl) | (obtain ⟨_, _, _, _, _, _, _, _, ee, _⟩ := h; subst ee; rfl) | (obtain ⟨_, _, _, _, _, _, _, _, _, ee, _⟩ := h; subst ee; rfl) | (obtain ⟨_, _, _, _, _, _, _, _, _, _, ee, _⟩ := h; subst ee; rfl)))
namespace Hj
open PySem PySem.Spec L2
section
variable {P : Program} {w : World} {K : PySem.W.Frag} {mg : Str → Option Value} {base : Heap}
theorem mem_ints {ns : List Int} {v : V} (h : v ∈ ns.map V.int) : ∃ m, m ∈ ns ∧ v = .int m := by
  obtain ⟨m, h1, h2⟩ := List.mem_map.mp h
  exact ⟨m, h1, h2.symm⟩
theorem len9 {us : List Str} (h : ∀ w ∈ us, clean w) : ∀ z ∈ us, z.length ≤ 9 := fun z hz => Nat.le_succ_of_le (h z hz).1.2
theorem sc_law : FnScope ["_law_script", "_law_store_here", "_law_lot_names", "_law_room", "_law_some_order", "_law_strict", "_law_loose", "_law_odd", "_law_salad", "_law_loops", "_law_text_list", "_law_some_text", "_law_sizes"] ["_law_script"] (defScope s_law) := ⟨rfl, rfl, rfl, by decide +kernel, rfl, by decide +kernel, by decide +kernel⟩
theorem ok_law {k : Nat} {f : Addr} {fd : FuncData} (F : Fun K "law" "law" s_law f fd) (T : Txt P K mg) (D_law_store : Dn P w K mg base CX0 k "_law_store" ["_law_script"] (spStore K)) (D_law_names : Dn P w K mg base CX0 k "_law_names" ["_law_store_here", "_law_many"] spNames) (D_law_pick : Dn P w K mg base CX0 k "_law_pick" ["_law_store_here", "_law_some"] (spPick K))
    (D_law_order : Dn P w K mg base CX0 k "_law_order" psOrd (spOrd K 3)) (D_law_take : Dn P w K mg base CX0 k "_law_take" psTake spTake) (D_law_order_words : Dn P w K mg base CX0 k "_law_order_words" psOW (spOW K 3)) (D_law_odd_words : Dn P w K mg base CX0 k "_law_odd_words" ["_law_store_here", "_law_lot_names", "_law_words"] (spOdd K))
    (D_law_nest_text : Dn P w K mg base CX0 k "_law_nest_text" ["_law_many", "_law_deep"] spNest) (D_law_text_right : Dn P w K mg base CX0 k "_law_text_right" ["_law_store_here", "_law_some_text"] (spTR K)) (D_law_text_read : Dn P w K mg base CX0 k "_law_text_read" ["_law_some_text"] (spTRead K))
    (D_law_written_right : Dn P w K mg base CX0 k "_law_written_right" ["_law_store_here", "_law_some_order", "_law_sizes"] (spWR K)) (D_law_same : Dn P w K mg base CX0 k "_law_same" psSame (spSame K 12)) (D_parse_order : Dn P w K mg base (L2.CX P w) k "parse_order" ["text"] (spParse K)) (D_format_order : Dn P w K mg base CX0 k "format_order" ["order"] (spFmt K)) :
    FnOk P w K mg base CX0 (k + 1) f fd ["_law_script"] (spLaw K) := by
  refine F.ok sc_law ?_ (fun cdv A outer s H vs Q E hr0 h => ?_)
  · walk_at "len"
  obtain ⟨a, ns0, rfl, hx, hnl, q⟩ := h
  refine ⟨_, (pss_cons (ps_set (i := 1) sc_law.nd rfl (Or.inl rfl) (pe_d D_law_store hr0 pass0 (pa_cons (pv 0) pa_nil))) (pss_cons (ps_set (i := 2) sc_law.nd rfl (Or.inl rfl) (pe_d D_law_names hr0 pass0 (pa_cons (pv 1) (pa_cons (pe_d D_law_pick hr0 pass0 (pa_cons (pv 1) (pa_cons (pe_lst (pa_cons pe_int (pa_cons pe_int (pa_cons pe_int (pa_cons pe_int (pa_cons pe_int pa_nil)))))) pa_nil))) pa_nil)))) (pss_cons (ps_set (i := 3) sc_law.nd rfl (Or.inl rfl) (pe_d D_law_pick hr0 pass0 (pa_cons (pv 1) (pa_cons (pe_lst (pa_cons pe_int (pa_cons pe_int (pa_cons pe_int (pa_cons pe_int (pa_cons pe_int (pa_cons pe_int pa_nil))))))) pa_nil)))) (pss_cons (ps_set (i := 4) sc_law.nd rfl (Or.inl rfl) (pe_ix ix_seq (pe_d D_law_order hr0 pass0 (pa_cons (pv 1) (pa_cons (pv 2) (pa_cons (pv 3) (pa_cons (pe_d D_law_take hr0 pass0 (pa_cons (pv 1) (pa_cons pe_int pa_nil))) (pa_cons (pe_lst pa_nil) pa_nil)))))) pe_int (fun _ _ => rfl))) (pss_cons (ps_set (i := 5) sc_law.nd rfl (Or.inl rfl) (pe_d D_law_order_words hr0 pass0 (pa_cons (pv 1) (pa_cons (pv 4) (pa_cons pe_bl pa_nil))))) (pss_cons (ps_set (i := 6) sc_law.nd rfl (Or.inl rfl) (pe_d D_law_order_words hr0 pass0 (pa_cons (pv 1) (pa_cons (pv 4) (pa_cons pe_bl pa_nil))))) (pss_cons (ps_set (i := 7) sc_law.nd rfl (Or.inl rfl) (pe_d D_law_odd_words hr0 pass0 (pa_cons (pv 1) (pa_cons (pv 2) (pa_cons (pv 6) pa_nil))))) (pss_cons (ps_set (i := 8) sc_law.nd rfl (Or.inl rfl) (pe_d D_law_odd_words hr0 pass0 (pa_cons (pv 1) (pa_cons (pv 2) (pa_cons (pe_d D_law_pick hr0 pass0 (pa_cons (pv 1) (pa_cons (pe_lst (pa_cons (pe_lst pa_nil) (pa_cons (pe_slice slAny (pv 5) po_none (po_some pe_int)) (pa_cons (pe_op opAdd (pe_slice slAny (pv 5) (po_some (pe_un un_neg pe_int)) po_none) (pe_lst (pa_cons pe_str pa_nil))) pa_nil)))) pa_nil))) pa_nil))))) (pss_cons (ps_set (i := 9) sc_law.nd rfl (Or.inl rfl) (pe_d D_law_nest_text hr0 pass0 (pa_cons (pe_d D_law_pick hr0 pass0 (pa_cons (pv 1) (pa_cons (pe_lst (pa_cons pe_int (pa_cons pe_int (pa_cons pe_int (pa_cons pe_int (pa_cons pe_int (pa_cons pe_int (pa_cons pe_int pa_nil)))))))) pa_nil))) (pa_cons (pe_d D_law_pick hr0 pass0 (pa_cons (pv 1) (pa_cons (pe_lst (pa_cons pe_int (pa_cons pe_int (pa_cons pe_int (pa_cons pe_int (pa_cons pe_int (pa_cons pe_int pa_nil))))))) pa_nil))) pa_nil)))) (pss_cons (ps_set (i := 10) sc_law.nd rfl (Or.inl rfl) (pe_lst (pa_cons (pe_join pe_str (pv 6)) (pa_cons (pe_join pe_str (pv 7)) (pa_cons (pe_join pe_str (pv 8)) (pa_cons (pv 9) (pa_cons (pe_join pe_str (pe_op opAdd (pe_slice slAny (pv 5) po_none (po_some pe_int)) (pe_split (pv 9) pe_str))) pa_nil))))))) (pss_cons (ps_expr (pe_bm PySem.F.plainAttrs_list PySem.F.slot_list_append PySem.F.type_list_append mt_append (pv 10) (pa_cons (pe_join pe_str (pe_op opAdd (pe_split (pv 9) pe_str) (pe_slice slAny (pv 7) po_none (po_some pe_int)))) pa_nil))) (pss_cons (ps_for PassesOwn.never rfl (pi_list (pe_op opAdd (pv 10) (pe_lst (pa_cons (pe_join pe_str (pv 5)) (pa_cons pe_str (pa_cons pe_str (pa_cons (pe_join pe_str (pv 6)) pa_nil))))))) (pg_name (i := 11) sc_law.nd rfl (Or.inl rfl)) (pss_one (ps_if (pt_not (pt_val (pe_d D_law_text_right hr0 pass0 (pa_cons (pv 1) (pa_cons (pv 11) pa_nil))))) (pss_one (ps_ret pe_bl)) pss_nil))) (pss_cons (ps_set (i := 12) sc_law.nd rfl (Or.inl rfl) (pe_callTy call_lstOf (by rfl) T.zlist (by decide +kernel) (pa_cons (pe_slice slAny (pe_d D_law_text_read hr0 pass0 (pa_cons (pe_join pe_str (pv 5)) pa_nil)) (po_some pe_int) po_none) pa_nil))) (pss_cons (ps_if (pt_not (pt_val (pe_d D_law_written_right hr0 pass0 (pa_cons (pv 1) (pa_cons (pv 4) (pa_cons (pv 12) pa_nil)))))) (pss_one (ps_ret pe_bl)) pss_nil) (pss_cons (ps_if (pt_not (pt_val (pe_d D_law_same hr0 pass0 (pa_cons (pe_d D_parse_order hr0 (passes_call (E := E0) takes0 (fun _ _ _ _ z => z)) (pa_cons (pe_d D_format_order hr0 pass0 (pa_cons (pv 4) pa_nil)) pa_nil)) (pa_cons (pv 4) pa_nil))))) (pss_one (ps_ret pe_bl)) pss_nil) (pss_one (ps_ret (pe_d D_law_same hr0 pass0 (pa_cons (pe_ix ix_seq (pe_d D_law_text_read hr0 pass0 (pa_cons (pe_join pe_str (pv 6)) pa_nil)) pe_int (fun _ _ => rfl)) (pa_cons (pv 4) pa_nil)))))))))))))))))))), ?_⟩
  walk_at "cl"
  walk_at "rk"
  refine ⟨a, ns0, rfl, hx, hnl, fun st cs H1 k1 S1 f1 f2 => ?_⟩
  walk_at "rk"
  refine r_newL (by simp) fun p2 H2 n2 k2 e2 => ?_
  walk_at "rk"
  have S2 := S1.keep0 k2
  refine ⟨st, cs, p2, [(1 : Int), 2, 3, 4, 6].map V.int, rfl, S2, SqL.of e2, (S1.ne n2).1.symm, by simp, by simp, fun v H3 hv k3 S3 => ?_⟩
  obtain ⟨m, hm, rfl⟩ := mem_ints hv
  have hm' : 1 ≤ m ∧ m ≤ 6 := by
    simp only [List.mem_cons, List.not_mem_nil, or_false] at hm
    omega
  walk_at "rk"
  refine ⟨st, cs, m, rfl, S3, hm'.1, hm'.2, fun pa ns H4 hne hl hn n4 e4 k4 S4 => ?_⟩
  have npa : pa ∉ [st] := by simpa using (S3.ne n4).1.symm
  walk_at "rk"
  refine r_newL (by simp) fun p5 H5 n5 k5 e5 => ?_
  have S5 := S4.keep0 k5
  walk_at "rk"
  refine ⟨st, cs, p5, [(1 : Int), 2, 4, 6, 9, 12].map V.int, rfl, S5, SqL.of e5, (S4.ne n5).1.symm, by simp, by simp, fun v H6 hv k6 S6 => ?_⟩
  obtain ⟨room, hroom, rfl⟩ := mem_ints hv
  have hr' : 1 ≤ room ∧ room ≤ 12 := by
    simp only [List.mem_cons, List.not_mem_nil, or_false] at hroom
    omega
  have K46 : Kp [st] H4 H6 := k5.all.trans k6
  walk_at "rk"
  refine ⟨st, cs, 4, rfl, S6, by omega, fun dp H7 dp0 dp1 k7 S7 => ?_⟩
  have dp2 := dp1 (by omega)
  have K47 := K46.trans k7
  walk_at "rk"
  refine r_newL (by simp) fun pb H8 n8 k8 e8 => ?_
  walk_at "rk"
  have S8 := S7.keep0 k8
  have K48 : Kp [st] H4 H8 := K47.trans k8.all
  have L8 : LotsAt K H8 st pa pb ns [] := { la := SqL.of (K48.get e4 npa), lb := e8, sv := nov, na := by simpa using npa, nb := (S7.ne n8).1.symm, ne := hne, l9 := by omega, s9 := by simp, nm := hn }
  refine ⟨st, cs, pa, pb, ns, [], room, dp, rfl, S8, L8, by omega, dp0, by omega, by simp; omega, fun p9 v o H9 n9 e9 dv ok0 hcn0 hdp0 k9 S9 => ?_⟩
  have hcn : cntO o ≤ 12 := by omega
  have hdp : depO o ≤ 3 := by omega
  walk_at "rk"
  refine r_ixL (SqL.of e9) (atI_nat (j := 0) rfl) ?_
  walk_at "rk"
  have K49 := K48.trans k9
  -- strict
  refine ⟨st, cs, v, o, [], false, rfl, S9, dv, ok0, nov, hcn, hdp, by omega, fun ps ws Ha na ea w1 ka Sa => ?_⟩
  have ew := WrO.strict w1
  subst ew
  obtain ⟨sc1, sc2⟩ := wO_clean nov ok0
  have nps : ps ∉ [st] := by simpa using (S9.ne na).1.symm
  have dva := dp_keep ka _ _ (flat_O o) dv
  walk_at "rk"
  -- loose
  refine ⟨st, cs, v, o, [], true, rfl, Sa, dva, ok0, nov, hcn, hdp, by omega, fun pl wl Hb nb eb w2 kb Sb => ?_⟩
  obtain ⟨lc1, lc2⟩ := wrO_clean w2 nov ok0
  have npl : pl ∉ [st] := by simpa using (Sa.ne nb).1.symm
  have K4b := (K49.trans ka).trans kb
  have dvb := dp_keep kb _ _ (flat_O o) dva
  walk_at "rk"
  -- odd
  refine ⟨st, cs, pa, pl, ns, wl, rfl, Sb, SqL.of (K4b.get e4 npa), by simpa using npa, by omega, fun z hz => Nat.le_succ_of_le (clean_nm (hn z hz)).1.2, SqL.of eb, by simpa using npl, by omega, len9 lc1, fun po uo Hc nc ec lo1 lo2 kc Sc => ?_⟩
  have npo : po ∉ [st] := by simpa using (Sb.ne nc).1.symm
  walk_at "rk"
  -- salad
  refine r_newL (by simp) fun pd Hd nd kd ed => ?_
  walk_at "rk"
  have Kad : Kp [st] Ha Hd := (kb.trans kc).trans kd.all
  refine r_slSK (Kad.get ea nps) fun pe He ye ne ke ee he le => ?_
  walk_at "rk"
  have Kae : Kp [st] Ha He := Kad.trans ke.all
  refine r_slSK (Kae.get ea nps) fun pf Hf yf nf kf ef hf lf => ?_
  walk_at "rk"
  refine r_newL (by simp) fun pg Hg ng kg eg => ?_
  refine r_catK (us := yf) (vs := [kEnd]) (kg.get ef (by simp)) eg (by simp; omega) fun ph Hh nh kh eh => ?_
  walk_at "rk"
  refine r_newL (by simp) fun pi Hi ni ki ei => ?_
  walk_at "rk"
  have Kci : Kp [] Hc Hi := (((kd.trans ke).trans kf).trans kg).trans (kh.trans ki)
  have Si := Sc.keep0 Kci
  have npi : pi ≠ st := ((Sc.keep0 ((((kd.trans ke).trans kf).trans kg).trans kh)).ne ni).1.symm
  refine ⟨st, cs, pi, [.ref pd, .ref pe, .ref ph], rfl, Si, SqL.of ei, npi, by simp, by simp, fun vz Hj hvz kj Sj => ?_⟩
  obtain ⟨pz, uz, rfl, nz, ez, lz1, lz2⟩ : ∃ (pz : Addr) (uz : List Str), vz = .ref pz ∧ pz ≠ st ∧ Hj pz = some (.lst (uz.map V.str)) ∧ uz.length ≤ 120 ∧ ∀ z ∈ uz, z.length ≤ 9 := by
    simp only [List.mem_cons, List.not_mem_nil, or_false] at hvz
    have s9 := len9 sc1
    rcases hvz with rfl | rfl | rfl
    · have hh := (Sc.ne nd).1.symm
      exact ⟨pd, [], rfl, hh, kj.get ((((ke.trans kf).trans kg).trans (kh.trans ki)).get ed (by simp)) (by simpa using hh), by simp, fun z h => by cases h⟩
    · have hh := ((Sc.keep0 kd).ne ne).1.symm
      exact ⟨pe, ye, rfl, hh, kj.get (((kf.trans kg).trans (kh.trans ki)).get ee (by simp)) (by simpa using hh), by omega, fun z h => s9 z (he z h)⟩
    · have hh := ((Sc.keep0 (((kd.trans ke).trans kf).trans kg)).ne nh).1.symm
      refine ⟨ph, yf ++ [kEnd], rfl, hh, kj.get (ki.get eh (by simp)) (by simpa using hh), by simp; omega, fun z h => ?_⟩
      rcases List.mem_append.mp h with h | h
      · exact s9 z (hf z h)
      · rw [List.mem_singleton.mp h]; decide +kernel
  have Kcj : Kp [st] Hc Hj := Kci.all.trans kj
  have K4j := (K4b.trans kc).trans Kcj
  walk_at "rk"
  refine ⟨st, cs, pa, pz, ns, uz, rfl, Sj, SqL.of (K4j.get e4 npa), by simpa using npa, by omega, fun z hz => Nat.le_succ_of_le (clean_nm (hn z hz)).1.2, SqL.of ez, nz, lz1, lz2, fun pt ut Hk nk ek lt1 lt2 kk Sk => ?_⟩
  walk_at "rk"
  have Kck : Kp [st] Hc Hk := Kcj.trans kk
  -- loops
  refine r_newL (by simp) fun p1 I1 o1 j1 g1 => ?_
  walk_at "rk"
  refine ⟨st, cs, p1, [(0 : Int), 1, 2, 11, 12, 13, 14].map V.int, rfl, Sk.keep0 j1, SqL.of g1, (Sk.ne o1).1.symm, by simp, by simp, fun v2 I2 hv2 j2 T2 => ?_⟩
  obtain ⟨m2, hm2, rfl⟩ := mem_ints hv2
  have hm2' : 0 ≤ m2 ∧ m2 ≤ 20 := by
    simp only [List.mem_cons, List.not_mem_nil, or_false] at hm2
    omega
  walk_at "rk"
  refine r_newL (by simp) fun p3 I3 o3 j3 g3 => ?_
  walk_at "rk"
  refine ⟨st, cs, p3, [(0 : Int), 1, 2, 3, 4, 5].map V.int, rfl, T2.keep0 j3, SqL.of g3, (T2.ne o3).1.symm, by simp, by simp, fun v4 I4 hv4 j4 T4 => ?_⟩
  obtain ⟨m4, hm4, rfl⟩ := mem_ints hv4
  have hm4' : 0 ≤ m4 ∧ m4 ≤ 20 := by
    simp only [List.mem_cons, List.not_mem_nil, or_false] at hm4
    omega
  walk_at "rk"
  refine ⟨m2, m4, rfl, hm2'.1, hm2'.2, hm4'.1, hm4'.2, fun zl I5 hzl j5 => ?_⟩
  have Kk5 : Kp [st] Hk I5 := (((j1.all.trans j2).trans j3.all).trans j4).trans j5.all
  have T5 := T4.keep0 j5
  have Kc5 := Kck.trans Kk5
  have es5 := Kc5.get (kc.get (kb.get ea nps) nps) nps
  have el5 := Kc5.get (kc.get eb npl) npl
  have eo5 := Kc5.get ec npo
  have npt : pt ∉ [st] := by simpa using (Sj.ne nk).1.symm
  have et5 := Kk5.get ek npt
  have q1 := sumL_le (B := 8) fun y hy => (lc1 y hy).1.2
  have q2 := sumL_le lo2
  have q3 := sumL_le lt2
  have q4 := sumL_le (B := 8) fun y hy => (sc1 y hy).1.2
  have j1' := join_len kSp wl
  have j2' := join_len kSp uo
  have j3' := join_len kSp ut
  have j4' := join_len kSp (wO o)
  rw [len_sp] at j1' j2' j3' j4'
  walk_at "rk"
  refine r_joinS (SqL.of el5) (by omega) ?_
  walk_at "rk"
  refine r_joinS (SqL.of eo5) (by omega) ?_
  walk_at "rk"
  refine r_joinS (SqL.of et5) (by omega) ?_
  walk_at "rk"
  refine r_slSK es5 fun p6 I6 y6 o6 j6 g6 h6 l6 => ?_
  walk_at "rk"
  refine r_splitK (by omega) fun p7 I7 o7 j7 g7 => ?_
  obtain ⟨x1, x2⟩ := split_len zl
  have q6 := sumL_le (B := 8) fun y hy => (sc1 y (h6 y hy)).1.2
  refine r_catK (j7.get g6 (by simp)) g7 (by omega) fun p8 I8 o8 j8 g8 => ?_
  walk_at "rk"
  have q8 : sumL (y6 ++ Txt.split zl kSp) ≤ 3000 := by rw [sumL_app]; omega
  have r8 : (y6 ++ Txt.split zl kSp).length ≤ 3000 := by rw [List.length_append]; omega
  have j8' := join_len kSp (y6 ++ Txt.split zl kSp)
  rw [len_sp] at j8'
  refine r_joinS (SqL.of g8) (by omega) ?_
  walk_at "rk"
  refine r_newL (by simp) fun p9 I9 o9 j9 g9 => ?_
  have K59 : Kp [] I5 I9 := ((j6.trans j7).trans j8).trans j9
  have T9 := T5.keep0 K59
  walk_at "rk"
  refine r_tyL (SqL.of g9) ?_
  walk_at "rk"
  refine r_splitK (by omega) fun pA IA oA jA gA => ?_
  walk_at "rk"
  refine r_slSK ((K59.trans jA).get eo5 (by simp)) fun pB IB yB oB jB gB hB lB => ?_
  refine r_catK (jB.get gA (by simp)) gB (by omega) fun pC IC oC jC gC => ?_
  walk_at "rk"
  have qB := sumL_le (B := 9) fun y hy => lo2 y (hB y hy)
  have qC : sumL (Txt.split zl kSp ++ yB) ≤ 50000 := by rw [sumL_app]; omega
  have rC : (Txt.split zl kSp ++ yB).length ≤ 10000 := by rw [List.length_append]; omega
  have jC' := join_len kSp (Txt.split zl kSp ++ yB)
  rw [len_sp] at jC'
  refine r_joinS (SqL.of gC) (by omega) ?_
  walk_at "rk"
  have j9C := (jA.trans jB).trans jC
  refine r_appK (j9C.get g9 (by simp)) (by simp) fun ID jD gD => ?_
  have n9D : ∀ {x : Addr} {o : HO}, I5 x = some o → ID x = some o := fun {x o} h => by
    have h9 := ((j6.trans j7).trans j8).get h (by simp)
    exact jD.get ((j9.trans j9C).get h9 (by simp)) (by simpa using ne_of_none h9 o9)
  have T8 : StoreAt I8 st cs := T5.keep0 ((j6.trans j7).trans j8)
  have K8D : Kp [] I8 ID := (j9.trans j9C).young jD fun b hb => by rw [List.mem_singleton.mp hb]; exact o9
  have TD : StoreAt ID st cs := T8.keep0 K8D
  have K5D : Kp [] I5 ID := ((j6.trans j7).trans j8).trans K8D
  walk_at "rk"
  refine r_joinS (SqL.of (n9D es5)) (by omega) ?_
  walk_at "rk"
  refine r_joinS (SqL.of (n9D el5)) (by omega) ?_
  walk_at "rk"
  refine r_newL (by simp) fun pE IE oE jE gE => ?_
  refine r_catK (us := [Txt.join kSp wl, Txt.join kSp uo, Txt.join kSp ut, zl, Txt.join kSp (y6 ++ Txt.split zl kSp)] ++ [Txt.join kSp (Txt.split zl kSp ++ yB)]) (vs := [Txt.join kSp (wO o), "", kSp, Txt.join kSp wl]) (jE.get gD (by simp)) gE (by simp) fun pF IF oF jF gF => ?_
  have hall : ∀ y ∈ ([Txt.join kSp wl, Txt.join kSp uo, Txt.join kSp ut, zl, Txt.join kSp (y6 ++ Txt.split zl kSp)] ++ [Txt.join kSp (Txt.split zl kSp ++ yB)]) ++ [Txt.join kSp (wO o), "", kSp, Txt.join kSp wl], y.length ≤ 100000 := by
    intro y hy
    have e0 : ("" : Str).length = 0 := by decide +kernel
    have e1 := len_sp
    simp only [List.cons_append, List.nil_append, List.mem_cons, List.not_mem_nil, or_false] at hy
    rcases hy with rfl | rfl | rfl | rfl | rfl | rfl | rfl | rfl | rfl | rfl <;> omega
  generalize ([Txt.join kSp wl, Txt.join kSp uo, Txt.join kSp ut, zl, Txt.join kSp (y6 ++ Txt.split zl kSp)] ++ [Txt.join kSp (Txt.split zl kSp ++ yB)]) ++ [Txt.join kSp (wO o), "", kSp, Txt.join kSp wl] = texts at gF hall
  have KDF := jE.trans jF
  have TF := TD.keep0 KDF
  have npF : pF ∉ [st] := by simpa using ((TD.keep0 jE).ne oF).1.symm
  have K5F := K5D.trans KDF
  refine r_itLE (SqL.of gF) ?_
  refine for_list (K := K) (a := pF) (xs := texts.map V.str) (fun i σ' H' => ∃ o11, σ' = [some (.ref a), some (.ref st), some (.ref pa), some (.int room), some v, some (.ref ps), some (.ref pl), some (.ref po), some (.ref pt), some (.str zl), some (.ref p9), o11, none] ∧ Kp [st] IF H' ∧ StoreAt H' st cs) ⟨_, rfl, .refl, TF⟩ (fun i σ' H' _ ⟨_, _, k, _⟩ => SqL.of (k.get gF npF)) ?_ ?_
  · rintro i x σ' H' hi ⟨o11, rfl, k, Sx⟩
    obtain ⟨y, hy, rfl⟩ := mem_strs (List.mem_of_getElem? hi)
    walk_at "rk"
    refine ⟨st, cs, y, rfl, Sx, hall y hy, fun H2 k2 S2 => ?_⟩
    walk_at "rk"
    refine r_F (by rfl) ?_
    walk_at "rk"
    exact ⟨_, rfl, k.trans k2, S2⟩
  · rintro σ' HG ⟨o11, rfl, kG, SG⟩
    have K5G : Kp [st] I5 HG := K5F.all.trans kG
    have gs := K5G.get es5 nps
    have gl := K5G.get el5 npl
    have er := read_back (strO o) ok0 hcn hdp
    have er2 := read_back w2 ok0 hcn hdp
    have dp1 := dep_O nov ok0 hdp
    have sm1 := sm_O hcn
    have dG := dp_keep ((((kb.trans kc).trans Kck).trans Kk5).trans K5G) _ _ (flat_O o) dva
    walk_at "rk"
    refine r_joinS (SqL.of gs) (by omega) ?_
    walk_at "rk"
    refine ⟨Txt.join kSp (wO o), rfl, by omega, fun u H1' du k1' => ?_⟩
    rw [wordsOf_clean sc1, er] at du
    obtain ⟨p, xs, rfl, h1, h2⟩ := dp_tupI du
    obtain ⟨y1, ys1, rfl, t1, h3⟩ := dps_consI h2
    obtain ⟨y2, ys2, rfl, t2, h4⟩ := dps_consI h3
    obtain ⟨y3, ys3, rfl, t3, h5⟩ := dps_consI h4
    obtain ⟨y4, ys4, rfl, t4, h6⟩ := dps_consI h5
    obtain rfl := dps_nilI h6
    cases t3
    cases t4
    walk_at "rk"
    refine r_tupsl (z := .non) h1 fun pH H2' n2' k2' e2' => ?_
    walk_at "rk"
    refine r_lstOfTK (SqT.of e2') fun pI H3' n3' k3' e3' => ?_
    have K3' : Kp [] HG H3' := (k1'.trans k2').trans k3'
    have npI : pI ≠ st := ((SG.keep0 (k1'.trans k2')).ne n3').1.symm
    have d3 := dp_keep K3' _ _ (flat_O o) dG
    walk_at "rk"
    refine ⟨st, cs, pI, v, o, [], rfl, SG.keep0 K3', d3, ok0, nov, hcn, hdp, e3', npI, fun H4' k4' S4' => ?_⟩
    have d4 := dp_keep k4' _ _ (flat_O o) d3
    walk_at "rk"
    refine r_F (by rfl) ?_
    walk_at "rk"
    refine ⟨v, o, [], rfl, d4, ok0, nov, hcn, hdp, fun H5' k5' => ?_⟩
    walk_at "rk"
    refine ⟨Txt.join kSp (wO o), rfl, by omega, ?_⟩
    rw [wordsOf_clean sc1]
    refine ⟨fun m hm => ?_, fun n hn => ?_, fun d hd => ?_, fun o' n d v' H6' ho dv' k6' => ?_⟩
    · rw [er] at hm
      cases hm
    · rw [er] at hn
      cases hn
    · rw [er] at hd
      cases hd
    rw [er] at ho
    obtain ⟨rfl, _, _⟩ := Res.told.inj ho
    walk_at "rk"
    have d6 := dp_keep (k5'.trans k6') _ _ (flat_O o) d4
    refine ⟨v', v, dO o, rfl, dv', d6, sm1, by omega, ?_⟩
    walk_at "rk"
    refine r_F (by rfl) ?_
    walk_at "rk"
    have gl6 := (k5'.trans k6').get (k4'.get (K3'.get gl (by simp)) npl) (by simp)
    refine r_joinS (SqL.of gl6) (by omega) ?_
    walk_at "rk"
    refine ⟨Txt.join kSp wl, rfl, by omega, fun u2 H7' du2 k7' => ?_⟩
    rw [wordsOf_clean lc1, er2] at du2
    obtain ⟨pJ, xs2, rfl, b1, b2⟩ := dp_tupI du2
    obtain ⟨z1, zs1, rfl, c1, b3⟩ := dps_consI b2
    obtain ⟨z2, zs2, rfl, c2, b4⟩ := dps_consI b3
    walk_at "rk"
    refine r_ixT b1 (atI_nat (j := 1) rfl) ?_
    walk_at "rk"
    refine ⟨z2, v, dO o, rfl, c2, dp_keep k7' _ _ (flat_O o) d6, sm1, by omega, ?_⟩
    exact q H7'
end
end Hj
end
section
set_option Elab.async false
set_option linter.all false
set_option maxRecDepth 100000
set_option maxHeartbeats 8000000
namespace Hj
open PySem PySem.Spec L2
/-! ### all of it together -/
section
variable {P : Program} {w : World} {K : PySem.W.Frag} {mg : Str → Option Value} {base : Heap}
theorem Mf.mn {CX : CXT} {C : Addr} {m qual : Str} {st : Stmt} {ps : List Str} {k : Nat} {sp : Sp} (D : Mf K C m qual st ps) (h : ∀ {f fd}, Fun K m qual st f fd → FnOk P w K mg base CX k f fd ps sp) : Mn P w K mg base CX k C m ps sp := by
  obtain ⟨f, fd, F, r⟩ := D.ex
  exact ⟨⟨f, fd, h F, r⟩⟩
theorem Nf.nn {CX : CXT} {C : Addr} {x qual : Str} {st : Stmt} {ps : List Str} {k : Nat} {sp : Sp} (D : Nf K mg x C qual st ps) (h : ∀ {f fd}, Fun K "__init__" qual st f fd → FnOk P w K mg base CX k f fd ps sp) : Nn P w K mg base CX k x C ps sp := by
  obtain ⟨f, fd, F, r⟩ := D.ex
  exact ⟨⟨f, fd, h F, r⟩⟩
theorem En.mono {CX : CXT} {x : Str} {ps : List Str} {j k : Nat} {sp : Addr × Obj → Sp} (D : En P w K mg base CX j x ps sp) (h : j ≤ k) : En P w K mg base CX k x ps sp := by
  obtain ⟨f, fd, F, r⟩ := D.ex
  exact ⟨⟨f, fd, ⟨F.len, fun A outer s H args us vs Q E p hr => F.run A outer s H args us vs Q E p (hr.mono h)⟩, r⟩⟩
/-- nothing is promised -/
theorem okNo {x qual : Str} {st : Stmt} {f : Addr} {fd : FuncData} {N ps : List Str} {k : Nat} (F : Fun K x qual st f fd) (S : FnScope N ps (defScope st)) : FnOk P w K mg base CX0 (k + 1) f fd ps spNo := F.ok S (fun _ _ _ _ h => h.elim) (fun _ _ _ _ _ _ _ _ _ h => h.elim)
theorem all_law (T : Txt P K mg) (D : Defs K mg) {f : Addr} {fd : FuncData} (F : Fun K "law" "law" s_law f fd) : FnOk P w K mg base CX0 17 f fd ["_law_script"] (spLaw K) := by
  have is_name : Dn P w K mg base CX0 1 "is_name" _ _ := D.d_is_name.dn fun F => ok_is_name F T
  have l_is_name : Dn P w K mg base CX0 1 "_law_is_name" _ _ := D.d_law_is_name.dn fun F => ok_law_is_name F T
  have mixed : Dn P w K mg base CX0 1 "_law_mixed" _ _ := D.d_law_mixed.dn fun F => ok_law_mixed F T
  have take : Dn P w K mg base CX0 2 "_law_take" _ _ := D.d_law_take.dn fun F => ok_law_take F T mixed
  have store : Dn P w K mg base CX0 1 "_law_store" _ _ := D.d_law_store.dn fun F => ok_law_store F T
  have number : Dn P w K mg base CX0 3 "_law_number" _ _ := D.d_law_number.dn fun F => ok_law_number F T take
  have pick : Dn P w K mg base CX0 3 "_law_pick" _ _ := D.d_law_pick.dn fun F => ok_law_pick F T take
  have name : Dn P w K mg base CX0 4 "_law_name" _ _ := D.d_law_name.dn fun F => ok_law_name F T (take.mono (by decide)) number
  have unlike : Dn P w K mg base CX0 1 "_law_unlike" _ _ := D.d_law_unlike.dn fun F => ok_law_unlike F T
  have names : Dn P w K mg base CX0 5 "_law_names" _ _ := D.d_law_names.dn fun F => ok_law_names F T (take.mono (by decide)) name (unlike.mono (by decide))
  have term : Dn P w K mg base CX0 5 "_law_term" _ _ := D.d_law_term.dn fun F => ok_law_term F T (take.mono (by decide)) (pick.mono (by decide)) name (unlike.mono (by decide))
  have test : Dn P w K mg base CX0 6 "_law_test" _ _ := D.d_law_test.dn fun F => ok_law_test F T (take.mono (by decide)) (pick.mono (by decide)) term
  have o0 : Dn P w K mg base CX0 1 "_law_order" _ _ := D.d_law_order.dn fun F => okNo F sc_law_order
  have st0 : Dn P w K mg base CX0 7 "_law_statement" _ (spStmt K 0) := D.d_law_statement.dn fun F => ok_law_statement (k := 6) (by decide) F T (take.mono (by decide)) (term.mono (by decide)) test (o0.mono (by decide)) (fun m e => by cases e)
  have or0 : Dn P w K mg base CX0 8 "_law_order" _ (spOrd K 0) := D.d_law_order.dn fun F => ok_law_order (k := 7) (by decide) F T (number.mono (by decide)) st0
  have st1 : Dn P w K mg base CX0 9 "_law_statement" _ (spStmt K 1) := D.d_law_statement.dn fun F => ok_law_statement (k := 8) (by decide) F T (take.mono (by decide)) (term.mono (by decide)) (test.mono (by decide)) or0 (fun m e vs H Q E h => by cases e; exact h)
  have or1 : Dn P w K mg base CX0 10 "_law_order" _ (spOrd K 1) := D.d_law_order.dn fun F => ok_law_order (k := 9) (by decide) F T (number.mono (by decide)) st1
  have st2 : Dn P w K mg base CX0 11 "_law_statement" _ (spStmt K 2) := D.d_law_statement.dn fun F => ok_law_statement (k := 10) (by decide) F T (take.mono (by decide)) (term.mono (by decide)) (test.mono (by decide)) or1 (fun m e vs H Q E h => by cases e; exact h)
  have or2 : Dn P w K mg base CX0 12 "_law_order" _ (spOrd K 2) := D.d_law_order.dn fun F => ok_law_order (k := 11) (by decide) F T (number.mono (by decide)) st2
  have st3 : Dn P w K mg base CX0 13 "_law_statement" _ (spStmt K 3) := D.d_law_statement.dn fun F => ok_law_statement (k := 12) (by decide) F T (take.mono (by decide)) (term.mono (by decide)) (test.mono (by decide)) or2 (fun m e vs H Q E h => by cases e; exact h)
  have or3 : Dn P w K mg base CX0 14 "_law_order" _ (spOrd K 3) := D.d_law_order.dn fun F => ok_law_order (k := 13) (by decide) F T (number.mono (by decide)) st3
  have tw : Dn P w K mg base CX0 1 "_law_test_words" _ _ := D.d_law_test_words.dn fun F => ok_law_test_words F T
  have w0 : Dn P w K mg base CX0 1 "_law_order_words" _ _ := D.d_law_order_words.dn fun F => okNo F sc_law_order_words
  have ow0 : Dn P w K mg base CX0 7 "_law_order_words" _ (spOW K 0) := D.d_law_order_words.dn fun F => ok_law_order_words (k := 6) (by decide) F T (take.mono (by decide)) (tw.mono (by decide)) (w0.mono (by decide)) (fun m e => by cases e)
  have ow1 : Dn P w K mg base CX0 8 "_law_order_words" _ (spOW K 1) := D.d_law_order_words.dn fun F => ok_law_order_words (k := 7) (by decide) F T (take.mono (by decide)) (tw.mono (by decide)) ow0 (fun m e vs H Q E h => by cases e; exact h)
  have ow2 : Dn P w K mg base CX0 9 "_law_order_words" _ (spOW K 2) := D.d_law_order_words.dn fun F => ok_law_order_words (k := 8) (by decide) F T (take.mono (by decide)) (tw.mono (by decide)) ow1 (fun m e vs H Q E h => by cases e; exact h)
  have ow3 : Dn P w K mg base CX0 10 "_law_order_words" _ (spOW K 3) := D.d_law_order_words.dn fun F => ok_law_order_words (k := 9) (by decide) F T (take.mono (by decide)) (tw.mono (by decide)) ow2 (fun m e vs H Q E h => by cases e; exact h)
  have nest : Dn P w K mg base CX0 1 "_law_nest_text" _ _ := D.d_law_nest_text.dn fun F => ok_law_nest_text F T
  have odd : Dn P w K mg base CX0 5 "_law_odd_words" _ _ := D.d_law_odd_words.dn fun F => ok_law_odd_words F T (take.mono (by decide)) (pick.mono (by decide))
  have stands : Dn P w K mg base CX0 2 "_law_stands" _ _ := D.d_law_stands.dn fun F => ok_law_stands F T l_is_name
  have waiting : Dn P w K mg base CX0 1 "_law_waiting" _ _ := D.d_law_waiting.dn fun F => ok_law_waiting F T
  have head : Dn P w K mg base CX0 1 "_law_head" _ _ := D.d_law_head.dn fun F => ok_law_head F T
  have closed : Dn P w K mg base CX0 1 "_law_closed_statement" _ _ := D.d_law_closed_statement.dn fun F => ok_law_closed_statement F T
  have read : Dn P w K mg base CX0 3 "_law_read" _ _ := D.d_law_read.dn fun F => ok_law_read F T stands (waiting.mono (by decide)) (head.mono (by decide)) (closed.mono (by decide))
  have tread : Dn P w K mg base CX0 4 "_law_text_read" _ _ := D.d_law_text_read.dn fun F => ok_law_text_read F T read
  have binit : Nn P w K mg base CX0 1 "OpenBlock" (cB K) _ _ := D.n_OpenBlock.nn fun F => ok_BInit F T
  have badd : Mn P w K mg base CX0 1 (cB K) "add_statement" _ _ := D.m_add_statement.mn fun F => ok_BAdd F T
  have bclosed : Mn P w K mg base CX0 1 (cB K) "closed_statement" _ _ := D.m_closed_statement.mn fun F => ok_BClosed F T
  have belse : Mn P w K mg base CX0 1 (cB K) "takes_else" _ _ := D.m_takes_else.mn fun F => ok_BElse F T
  have peek : Mn P w K mg base (L2.CX P w) 5 (cR K) "peek_word" _ _ := D.m_peek_word.mn fun F => ok_RPeek F T
  have tkw : Mn P w K mg base (L2.CX P w) 6 (cR K) "take_word" _ _ := D.m_take_word.mn fun F => ok_RTkW F T peek
  have tkv : Mn P w K mg base (L2.CX P w) 6 (cR K) "take_variable" _ _ := D.m_take_variable.mn fun F => ok_RTkV F T peek
  have tkt : Mn P w K mg base (L2.CX P w) 6 (cR K) "take_term" _ _ := D.m_take_term.mn fun F => ok_RTkT F T peek (is_name.mono (by decide))
  have tkp : Mn P w K mg base (L2.CX P w) 7 (cR K) "take_plain_test" _ _ := D.m_take_plain_test.mn fun F => ok_RTkP F T tkw tkt
  have tktest : Mn P w K mg base (L2.CX P w) 8 (cR K) "take_test" _ _ := D.m_take_test.mn fun F => ok_RTkTest F T (peek.mono (by decide)) tkp
  have opp : Dn P w K mg base CX0 1 "opposite_test" _ _ := D.d_opposite_test.dn fun F => ok_opposite_test F T
  have alw : Mn P w K mg base CX0 2 (cR K) "allowed_words" _ _ := D.m_allowed_words.mn fun F => ok_RAlw F T belse
  have leave : Mn P w K mg base CX0 2 (cR K) "leave_block" _ _ := D.m_leave_block.mn fun F => ok_RLeave F T badd bclosed
  have enter : Mn P w K mg base (L2.CX P w) 9 (cR K) "enter_block" _ _ := D.m_enter_block.mn fun F => ok_REnter F T (tkw.mono (by decide)) (tkv.mono (by decide)) tktest (opp.mono (by decide)) (binit.mono (by decide))
  have step : Mn P w K mg base (L2.CX P w) 10 (cR K) "read_step" _ _ := D.m_read_step.mn fun F => ok_RStep F T (tkw.mono (by decide)) (alw.mono (by decide)) (leave.mono (by decide)) (tkt.mono (by decide)) (badd.mono (by decide)) enter
  have rord : Mn P w K mg base (L2.CX P w) 11 (cR K) "read_order" _ _ := D.m_read_order.mn fun F => ok_ROrd F T step
  have rinit : Nn P w K mg base CX0 3 "OrderReader" (cR K) _ _ := D.n_OrderReader.nn fun F => ok_RInit F T binit
  have parse : Dn P w K mg base (L2.CX P w) 13 "parse_order" _ _ := D.d_parse_order.dn fun F => ok_parse_order F T (rinit.mono (by decide)) (rord.mono (by decide))
  have pw : Dn P w K mg base CX0 1 "words_of_test" _ _ := D.d_words_of_test.dn fun F => ok_words_of_test F T
  have b0 : Dn P w K mg base CX0 1 "block_words" _ _ := D.d_block_words.dn fun F => okNo F sc_block_words
  have ws0 : Dn P w K mg base CX0 2 "statement_words" _ (spWS K 0) := D.d_statement_words.dn fun F => ok_statement_words (k := 1) (by decide) F T pw b0 (fun m e => by cases e)
  have wo0 : Dn P w K mg base CX0 3 "order_words" _ (spWO K 0) := D.d_order_words.dn fun F => ok_order_words (k := 2) F T ws0
  have wb0 : Dn P w K mg base CX0 4 "block_words" _ (spWB K 0) := D.d_block_words.dn fun F => ok_block_words (k := 3) F T wo0
  have ws1 : Dn P w K mg base CX0 5 "statement_words" _ (spWS K 1) := D.d_statement_words.dn fun F => ok_statement_words (k := 4) (by decide) F T (pw.mono (by decide)) wb0 (fun m e vs H Q E h => by cases e; exact h)
  have wo1 : Dn P w K mg base CX0 6 "order_words" _ (spWO K 1) := D.d_order_words.dn fun F => ok_order_words (k := 5) F T ws1
  have wb1 : Dn P w K mg base CX0 7 "block_words" _ (spWB K 1) := D.d_block_words.dn fun F => ok_block_words (k := 6) F T wo1
  have ws2 : Dn P w K mg base CX0 8 "statement_words" _ (spWS K 2) := D.d_statement_words.dn fun F => ok_statement_words (k := 7) (by decide) F T (pw.mono (by decide)) wb1 (fun m e vs H Q E h => by cases e; exact h)
  have wo2 : Dn P w K mg base CX0 9 "order_words" _ (spWO K 2) := D.d_order_words.dn fun F => ok_order_words (k := 8) F T ws2
  have wb2 : Dn P w K mg base CX0 10 "block_words" _ (spWB K 2) := D.d_block_words.dn fun F => ok_block_words (k := 9) F T wo2
  have ws3 : Dn P w K mg base CX0 11 "statement_words" _ (spWS K 3) := D.d_statement_words.dn fun F => ok_statement_words (k := 10) (by decide) F T (pw.mono (by decide)) wb2 (fun m e vs H Q E h => by cases e; exact h)
  have wo3 : Dn P w K mg base CX0 12 "order_words" _ (spWO K 3) := D.d_order_words.dn fun F => ok_order_words (k := 11) F T ws3
  have fmt : Dn P w K mg base CX0 13 "format_order" _ _ := D.d_format_order.dn fun F => ok_format_order F T wo3
  have bodies : Dn P w K mg base CX0 1 "bodies_of" _ _ := D.d_bodies_of.dn fun F => ok_bodies_of F T
  have c0 : Dn P w K mg base CX0 1 "count_statements" _ _ := D.d_count_statements.dn fun F => okNo F sc_count_statements
  have cn0 : Dn P w K mg base CX0 2 "count_statements" _ (spCnt K 0) := D.d_count_statements.dn fun F => ok_count_statements (k := 1) (by decide) F T bodies c0 (fun m e => by cases e)
  have cn1 : Dn P w K mg base CX0 3 "count_statements" _ (spCnt K 1) := D.d_count_statements.dn fun F => ok_count_statements (k := 2) (by decide) F T (bodies.mono (by decide)) cn0 (fun m e vs H Q E h => by cases e; exact h)
  have cn2 : Dn P w K mg base CX0 4 "count_statements" _ (spCnt K 2) := D.d_count_statements.dn fun F => ok_count_statements (k := 3) (by decide) F T (bodies.mono (by decide)) cn1 (fun m e vs H Q E h => by cases e; exact h)
  have cn3 : Dn P w K mg base CX0 5 "count_statements" _ (spCnt K 3) := D.d_count_statements.dn fun F => ok_count_statements (k := 4) (by decide) F T (bodies.mono (by decide)) cn2 (fun m e vs H Q E h => by cases e; exact h)
  have d0 : Dn P w K mg base CX0 1 "depth_of" _ _ := D.d_depth_of.dn fun F => okNo F sc_depth_of
  have de0 : Dn P w K mg base CX0 2 "depth_of" _ (spDep K 0) := D.d_depth_of.dn fun F => ok_depth_of (k := 1) (by decide) F T bodies d0 (fun m e => by cases e)
  have de1 : Dn P w K mg base CX0 3 "depth_of" _ (spDep K 1) := D.d_depth_of.dn fun F => ok_depth_of (k := 2) (by decide) F T (bodies.mono (by decide)) de0 (fun m e vs H Q E h => by cases e; exact h)
  have de2 : Dn P w K mg base CX0 4 "depth_of" _ (spDep K 2) := D.d_depth_of.dn fun F => ok_depth_of (k := 3) (by decide) F T (bodies.mono (by decide)) de1 (fun m e vs H Q E h => by cases e; exact h)
  have de3 : Dn P w K mg base CX0 5 "depth_of" _ (spDep K 3) := D.d_depth_of.dn fun F => ok_depth_of (k := 4) (by decide) F T (bodies.mono (by decide)) de2 (fun m e vs H Q E h => by cases e; exact h)
  have s0 : Dn P w K mg base CX0 1 "_law_same" _ _ := D.d_law_same.dn fun F => okNo F sc_law_same
  have same : ∀ n : Nat, Dn P w K mg base CX0 (n + 2) "_law_same" psSame (spSame K n) := by
    intro n
    induction n with
    | zero => exact D.d_law_same.dn fun F => ok_law_same (k := 1) F T s0 (fun m e => by cases e)
    | succ n ih => exact D.d_law_same.dn fun F => ok_law_same (k := n + 2) F T ih (fun m e vs H Q E h => by cases e; exact h)
  have refusal : En P w K mg base CX0 1 "_law_refusal" _ _ := D.d_law_refusal.en fun F => ok_law_refusal F T
  have told : Dn P w K mg base CX0 14 "_law_told" _ _ := D.d_law_told.dn fun F => ok_law_told F T parse (refusal.mono (by decide))
  have wright : Dn P w K mg base CX0 15 "_law_written_right" _ _ := D.d_law_written_right.dn fun F => ok_law_written_right F T (ow3.mono (by decide)) (fmt.mono (by decide)) (same 12) (cn3.mono (by decide)) (de3.mono (by decide))
  have tright : Dn P w K mg base CX0 16 "_law_text_right" _ _ := D.d_law_text_right.dn fun F => ok_law_text_right F T (tread.mono (by decide)) (told.mono (by decide)) ((same 12).mono (by decide)) wright (parse.mono (by decide)) (fmt.mono (by decide))
  exact ok_law F T (store.mono (by decide)) (names.mono (by decide)) (pick.mono (by decide)) (or3.mono (by decide)) (take.mono (by decide)) (ow3.mono (by decide)) (odd.mono (by decide)) (nest.mono (by decide)) tright (tread.mono (by decide)) (wright.mono (by decide)) ((same 12).mono (by decide)) (parse.mono (by decide)) (fmt.mono (by decide))
end
end Hj
end
theorem PySem.Challenge.cw_hedgejoin_k95_whole_orders_read_and_writ_holds : PySem.Challenge.rw_hedgejoin_k95_whole_orders_read_and_writ.Holds := by
  exact Hj.early Hj.all_law
