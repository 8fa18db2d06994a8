import PyProof.Rows.All
import PySem.Str
import Wide.All
import OpenK.AllK
import Wide.FinOn
import HandS.ForMost
import HandS.Exc
import HandS.TryOnly
import HandS.TryMany
import HandS.ExcOwn
import HandS.ExcIs
import HandS.WordsExc
import HandS.Defaults
import HandS.IsInst
import HandS.Style
import HandS.Deep
import HandS.Gcd
import HandS.Wide
import HandS.HeadHook1
import HandS.ExcCtx
import HandS.Hot
import HandS.HotCalls
import HandS.FStr
import KE.KMathGC
import HandS.HeadHook2
import HandS.HeadEnd
import HandS.Head0
import HandS.Head1
import HandS.Head2
import HandS.Head3
import PySem.Challenge.RW_stepscounted_k00_exact_numbers
set_option linter.all false
/-! I1: the values, environments and steps of a small evaluator of plain Python bodies; no program in sight. -/
namespace Pv
open PySem

/-- data -/
inductive D where
  | non
  | bl (b : Bool)
  | int (i : Int)
  | str (s : Str)
  | lst (ds : List D)
  | tup (ds : List D)
  /-- the script -/
  | scr (ns : List Int)
  /-- an exception that a suite holds -/
  | adr (a : Nat)
  deriving Inhabited

/-- what an expression gives: a value, or a new list that nobody else holds -/
inductive R where
  | v (d : D)
  | own (ds : List D)
def R.d : R → D
  | .v d => d
  | .own ds => .lst ds
/-- an answer, or an exception of the class of that name -/
inductive Res where
  | ok (r : R)
  | ex (c : Str)
/-- a local name: nothing, a value, a list of its own (b: locked), an exception of that class -/
inductive Sl where
  | un
  | va (d : D)
  | ow (b : Bool) (ds : List D)
abbrev Ev := List Sl
/-- how a statement ends -/
inductive Fl where
  | nx (τ : Ev)
  | bk (τ : Ev)
  | ct (τ : Ev)
  | rt (r : R)
  | ex (c : Str) (τ : Ev)
abbrev ExF := Ev → Option Res
abbrev StF := Ev → Option Fl
/-- a def -/
abbrev Gf := List D → Option Res

def bd (x : Option Res) (k : R → Option Res) : Option Res := match x with
  | some (.ok r) => k r
  | some (.ex c) => some (.ex c)
  | none => none
@[simp] theorem bd_ok (r : R) (k : R → Option Res) : bd (some (.ok r)) k = k r := rfl
@[simp] theorem bd_ex (c : Str) (k : R → Option Res) : bd (some (.ex c)) k = some (.ex c) := rfl
@[simp] theorem bd_none (k : R → Option Res) : bd none k = none := rfl
def okR (o : Option R) : Option Res := match o with
  | some r => some (.ok r)
  | none => none
@[simp] theorem okR_some (r : R) : okR (some r) = some (.ok r) := rfl
@[simp] theorem okR_none : okR none = none := rfl
abbrev okD (d : D) : Option Res := some (.ok (.v d))

/-! ### names, constants -/
def eVar (i : Nat) : ExF := fun τ => match τ.getD i .un with
  | .va d => okD d
  | _ => none
def eC (d : D) : ExF := fun _ => okD d

/-! ### operators -/
def eBin (o : D → D → Option R) (f g : ExF) : ExF := fun τ => bd (f τ) fun a => bd (g τ) fun b => okR (o a.d b.d)
def eUn (o : D → Option R) (f : ExF) : ExF := fun τ => bd (f τ) fun a => okR (o a.d)
def line : Nat := 16777216
def oAdd : D → D → Option R
  | .int i, .int j => some (.v (.int (i + j)))
  | .str x, .str y => if x.length + y.length ≤ line then some (.v (.str (x ++ y))) else none
  | .lst xs, .lst ys => if xs.length ≤ line ∧ ys.length ≤ line ∧ xs.length + ys.length ≤ line then some (.own (xs ++ ys)) else none
  | _, _ => none
def oSub : D → D → Option R
  | .int i, .int j => some (.v (.int (i - j)))
  | _, _ => none
def mulOk (i j : Int) : Bool := decide (i.natAbs.log2 + j.natAbs.log2 < 1000000)
def oMul : D → D → Option R
  | .int i, .int j => if mulOk i j then some (.v (.int (i * j))) else none
  | _, _ => none
def divOk (j : Int) : Bool := (decide (0 < j) && decide (j.natAbs.log2 < 9000)) || (decide (j ≠ 0) && decide (j.natAbs < 1073741824))
def oDiv : D → D → Option R
  | .int i, .int j => if divOk j then some (.v (.int (i.fdiv j))) else none
  | _, _ => none
def oMod : D → D → Option R
  | .int i, .int j => if j ≠ 0 then some (.v (.int (i.fmod j))) else none
  | _, _ => none
def oPow : D → D → Option R
  | .int i, .int j => if 0 ≤ j ∧ j ≤ 1000000 ∧ i.natAbs < 2 ^ 64 then some (.v (.int (i ^ j.toNat))) else none
  | _, _ => none
def uNeg : D → Option R
  | .int i => some (.v (.int (-i)))
  | _ => none

/-! ### equality -/
mutual
def D.eqv : D → D → Bool
  | .non, e => (match e with
    | .non => true
    | _ => false)
  | .bl a, e => (match e with
    | .bl b => a == b
    | .int j => (if a then 1 else 0) == j
    | _ => false)
  | .int i, e => (match e with
    | .bl b => i == (if b then 1 else 0)
    | .int j => i == j
    | _ => false)
  | .str x, e => (match e with
    | .str y => x == y
    | _ => false)
  | .lst xs, e => (match e with
    | .lst ys => D.eqvs xs ys
    | _ => false)
  | .tup xs, e => (match e with
    | .tup ys => D.eqvs xs ys
    | _ => false)
  | .scr _, _ => false
  | .adr _, _ => false
def D.eqvs : List D → List D → Bool
  | [], e => (match e with
    | [] => true
    | _ => false)
  | x :: xs, e => (match e with
    | y :: ys => D.eqv x y && D.eqvs xs ys
    | _ => false)
end
mutual
/-- texts of which == may be asked, and not too deep -/
def D.fit : Nat → D → Bool
  | _, .non => true
  | _, .bl _ => true
  | _, .int _ => true
  | _, .str x => x.cps.toList.all fun c => decide (c < 128)
  | 0, .lst _ => false
  | n + 1, .lst xs => D.fits n xs
  | 0, .tup _ => false
  | n + 1, .tup xs => D.fits n xs
  | _, .scr _ => false
  | _, .adr _ => false
def D.fits : Nat → List D → Bool
  | _, [] => true
  | n, x :: xs => D.fit n x && D.fits n xs
end
def oEq (x y : D) : Option R := if x.fit 60 && y.fit 60 then some (.v (.bl (x.eqv y))) else none
def oNe (x y : D) : Option R := if x.fit 60 && y.fit 60 then some (.v (.bl (!x.eqv y))) else none
def oLt : D → D → Option R
  | .int i, .int j => some (.v (.bl (decide (i < j))))
  | _, _ => none
def oLe : D → D → Option R
  | .int i, .int j => some (.v (.bl (decide (i ≤ j))))
  | _, _ => none
def oGt : D → D → Option R
  | .int i, .int j => some (.v (.bl (decide (j < i))))
  | _, _ => none
def oGe : D → D → Option R
  | .int i, .int j => some (.v (.bl (decide (j ≤ i))))
  | _, _ => none
def oIsN (x y : D) : Option R := match y with
  | .non => some (.v (.bl (match x with
    | .non => true
    | _ => false)))
  | _ => none
def oNotN (x y : D) : Option R := match y with
  | .non => some (.v (.bl (!(match x with
    | .non => true
    | _ => false))))
  | _ => none
def oIsB (x y : D) : Option R := match x, y with
  | .bl a, .bl b => some (.v (.bl (decide (a = b))))
  | _, _ => none
/-- one sign in a text -/
def oInS : D → D → Option R
  | .str c, .str z => if c.length = 1 then some (.v (.bl (decide (c.cps.toList.headD 0 ∈ z.cps.toList)))) else none
  | _, _ => none
def oNotInS : D → D → Option R
  | .str c, .str z => if c.length = 1 then some (.v (.bl (!decide (c.cps.toList.headD 0 ∈ z.cps.toList)))) else none
  | _, _ => none
def inD (x : D) (ys : List D) : Bool := ys.any fun y => y.eqv x
def oInL : D → D → Option R
  | x, .lst ys => if x.fit 60 && D.fits 59 ys then some (.v (.bl (inD x ys))) else none
  | _, _ => none
def oNotInL : D → D → Option R
  | x, .lst ys => if x.fit 60 && D.fits 59 ys then some (.v (.bl (!inD x ys))) else none
  | _, _ => none

/-! ### and, or, not, if -/
def asB : R → Option Bool
  | .v (.bl b) => some b
  | _ => none
def eAnd (f g : ExF) : ExF := fun τ => bd (f τ) fun a => match asB a with
  | some true => g τ
  | some false => okD (.bl false)
  | none => none
def eOr (f g : ExF) : ExF := fun τ => bd (f τ) fun a => match asB a with
  | some true => okD (.bl true)
  | some false => g τ
  | none => none
def eNot (f : ExF) : ExF := fun τ => bd (f τ) fun a => match asB a with
  | some b => okD (.bl (!b))
  | none => none
def eIte (c f g : ExF) : ExF := fun τ => bd (c τ) fun a => match asB a with
  | some true => f τ
  | some false => g τ
  | none => none

/-! ### lists, tuples, items, slices -/
inductive Rs where
  | ok (ds : List D)
  | ex (c : Str)
def ab (x : Option Rs) (k : List D → Option Res) : Option Res := match x with
  | some (.ok ds) => k ds
  | some (.ex c) => some (.ex c)
  | none => none
@[simp] theorem ab_ok (ds : List D) (k : List D → Option Res) : ab (some (.ok ds)) k = k ds := rfl
@[simp] theorem ab_ex (c : Str) (k : List D → Option Res) : ab (some (.ex c)) k = some (.ex c) := rfl
@[simp] theorem ab_none (k : List D → Option Res) : ab none k = none := rfl
def consR (d : D) (x : Option Rs) : Option Rs := match x with
  | some (.ok ds) => some (.ok (d :: ds))
  | o => o
@[simp] theorem consR_ok (d : D) (ds : List D) : consR d (some (.ok ds)) = some (.ok (d :: ds)) := rfl
def eArgs : List ExF → Ev → Option Rs
  | [], _ => some (.ok [])
  | f :: fs, τ => match f τ with
    | some (.ok r) => consR r.d (eArgs fs τ)
    | some (.ex c) => some (.ex c)
    | none => none
def eLst (fs : List ExF) : ExF := fun τ => ab (eArgs fs τ) fun ds => if ds.length ≤ line then some (.ok (.own ds)) else none
def eTup (fs : List ExF) : ExF := fun τ => ab (eArgs fs τ) fun ds => if ds.length ≤ line then okD (.tup ds) else none
def atI (n : Nat) (i : Int) : Option Nat := if 0 ≤ i then (if i < n then some i.toNat else none) else if -(n : Int) ≤ i then some (i + n).toNat else none
def oIx : D → D → Option R
  | .scr xs, .int i => (atI xs.length i).bind fun j => (xs[j]?).map fun n => .v (.int n)
  | .lst xs, .int i => (atI xs.length i).bind fun j => (xs[j]?).map .v
  | .tup xs, .int i => (atI xs.length i).bind fun j => (xs[j]?).map .v
  | .str x, .int i => if x.length ≤ line then (atI x.length i).bind fun j => (x.cps[j]?).map fun c => .v (.str ⟨#[c]⟩) else none
  | _, _ => none

/-! ### calls -/
def eCall (G : Gf) (fs : List ExF) : ExF := fun τ => ab (eArgs fs τ) G
def eB1 (o : D → Option R) (f : ExF) : ExF := fun τ => bd (f τ) fun a => okR (o a.d)
def eB2 (o : D → D → Option R) (f g : ExF) : ExF := fun τ => bd (f τ) fun a => bd (g τ) fun b => okR (o a.d b.d)
def bLen : D → Option R
  | .scr xs => some (.v (.int xs.length))
  | .lst xs => some (.v (.int xs.length))
  | .tup xs => some (.v (.int xs.length))
  | .str x => if x.length ≤ line then some (.v (.int x.length)) else none
  | _ => none
def bInt : D → Option R
  | .int i => some (.v (.int i))
  | .bl b => some (.v (.int (if b then 1 else 0)))
  | _ => none
def bAbs : D → Option R
  | .int i => some (.v (.int (if i < 0 then -i else i)))
  | _ => none
def bStr : D → Option R
  | .int i => if i.natAbs.log2 < 1920 then some (.v (.str (toString i : String))) else none
  | _ => none
def bList : D → Option R
  | .lst xs => some (.own xs)
  | .tup xs => some (.own xs)
  | _ => none
inductive Ty where
  | int | bool | str | tuple | list
/-- isinstance -/
def isT : Ty → D → Bool
  | .int, .int _ => true
  | .int, .bl _ => true
  | .bool, .bl _ => true
  | .str, .str _ => true
  | .tuple, .tup _ => true
  | .list, .lst _ => true
  | _, _ => false
def bIs (t : Ty) (d : D) : Option R := match d with
  | .scr _ => none
  | .adr _ => none
  | d => some (.v (.bl (isT t d)))
def oGcd : D → D → Option R
  | .int i, .int j => some (.v (.int (Int.gcd i j)))
  | _, _ => none
def oLcm : D → D → Option R
  | .int i, .int j => some (.v (.int (Int.lcm i j)))
  | _, _ => none

/-! ### lending: the slots' own lists are read as values; what comes of it holds no list -/
mutual
def D.flat : D → Bool
  | .lst _ => false
  | .tup xs => D.flats xs
  | .non => true
  | .bl _ => true
  | .int _ => true
  | .str _ => true
  | .scr _ => false
  | .adr _ => true
def D.flats : List D → Bool
  | [] => true
  | x :: xs => D.flat x && D.flats xs
end
def R.flat : R → Bool
  | .v d => d.flat
  | .own ds => D.flats ds
def Sl.lent : Sl → Sl
  | .ow _ ds => .va (.lst ds)
  | s => s
def lend (is : List Nat) (τ : Ev) : Ev := is.foldl (fun τ i => τ.set i ((τ.getD i .un).lent)) τ
def eLend (is : List Nat) (f : ExF) : ExF := fun τ => bd (f (lend is τ)) fun r => if r.flat then some (.ok r) else none

/-! ### statements -/
def sd (x : Option Res) (τ : Ev) (k : R → Option Fl) : Option Fl := match x with
  | some (.ok r) => k r
  | some (.ex c) => some (.ex c τ)
  | none => none
@[simp] theorem sd_ok (r : R) (τ : Ev) (k : R → Option Fl) : sd (some (.ok r)) τ k = k r := rfl
@[simp] theorem sd_ex (c : Str) (τ : Ev) (k : R → Option Fl) : sd (some (.ex c)) τ k = some (.ex c τ) := rfl
@[simp] theorem sd_none (τ : Ev) (k : R → Option Fl) : sd none τ k = none := rfl
def R.sl : R → Sl
  | .v d => .va d
  | .own ds => .ow false ds
def sNx : StF := fun τ => some (.nx τ)
def sSeq (a b : StF) : StF := fun τ => match a τ with
  | some (.nx τ') => b τ'
  | o => o
def sAsg (i : Nat) (f : ExF) : StF := fun τ => sd (f τ) τ fun r => some (.nx (τ.set i r.sl))
/-- a, b = e1, e2 -/
def sPar (i j : Nat) (f g : ExF) : StF := fun τ => sd (f τ) τ fun a => sd (g τ) τ fun b => some (.nx ((τ.set i (.va a.d)).set j (.va b.d)))
def sRet (f : ExF) : StF := fun τ => sd (f τ) τ fun r => some (.rt r)
/-- return of a name that may hold a list of its own -/
def sRetV (i : Nat) : StF := fun τ => match τ.getD i .un with
  | .va d => some (.rt (.v d))
  | .ow _ ds => some (.rt (.own ds))
  | .un => none
def sIf (c : ExF) (a b : StF) : StF := fun τ => sd (c τ) τ fun r => match asB r with
  | some true => a τ
  | some false => b τ
  | none => none
def sDrop (f : ExF) : StF := fun τ => sd (f τ) τ fun _ => some (.nx τ)
/-- x.append(e) -/
def sApp (i : Nat) (f : ExF) : StF := fun τ => match τ.getD i .un with
  | .ow false ds => sd (f τ) τ fun r => if ds.length < line then some (.nx (τ.set i (.ow false (ds ++ [r.d])))) else none
  | _ => none
/-- x[k] = e -/
def sSet (i : Nat) (k f : ExF) : StF := fun τ => match τ.getD i .un with
  | .ow false ds => sd (f τ) τ fun r => sd (k τ) τ fun q => match q.d with
    | .int z => (match atI ds.length z with
      | some j => some (.nx (τ.set i (.ow false (ds.set j r.d))))
      | none => none)
    | _ => none
  | _ => none
def sBrk : StF := fun τ => some (.bk τ)
def sCnt : StF := fun τ => some (.ct τ)
/-- nothing is done: the slot's list is from now on a value -/
def sFrz (i : Nat) : StF := fun τ => some (.nx (τ.set i ((τ.getD i .un).lent)))
def sRaise (c : Str) : StF := fun τ => some (.ex c τ)
/-! ### what is walked; targets -/
abbrev Src := Ev → Option Rs
abbrev Tgt := D → Ev → Option Ev
def srB (x : Option Res) (k : R → Option Rs) : Option Rs := match x with
  | some (.ok r) => k r
  | some (.ex c) => some (.ex c)
  | none => none
@[simp] theorem srB_ok (r : R) (k : R → Option Rs) : srB (some (.ok r)) k = k r := rfl
@[simp] theorem srB_ex (c : Str) (k : R → Option Rs) : srB (some (.ex c)) k = some (.ex c) := rfl
@[simp] theorem srB_none (k : R → Option Rs) : srB none k = none := rfl
/-- in x, x a list or a tuple -/
def srSeq (f : ExF) : Src := fun τ => srB (f τ) fun r => match r.d with
  | .lst xs => some (.ok xs)
  | .tup xs => some (.ok xs)
  | _ => none
def intsD (n : Nat) (lo : Int) : List D := match n with
  | 0 => []
  | n + 1 => .int lo :: intsD n (lo + 1)
def rgOk (i : Int) : Bool := decide (-(2 ^ 62) ≤ i) && decide (i < 2 ^ 62)
def srR1 (f : ExF) : Src := fun τ => srB (f τ) fun r => match r.d with
  | .int n => if rgOk n then some (.ok (intsD n.toNat 0)) else none
  | _ => none
def srR2 (f g : ExF) : Src := fun τ => srB (f τ) fun r => srB (g τ) fun q => match r.d, q.d with
  | .int a, .int b => if rgOk a && rgOk b then some (.ok (intsD (b - a).toNat a)) else none
  | _, _ => none
/-- in a text: its signs -/
def srS (f : ExF) : Src := fun τ => srB (f τ) fun r => match r.d with
  | .str x => some (.ok (x.cps.toList.map fun c => .str ⟨#[c]⟩))
  | _ => none
def tgN (j : Nat) : Tgt := fun d τ => some (τ.set j (.va d))
/-- a tuple of two names -/
def tg2 (i j : Nat) : Tgt := fun d τ => match d with
  | .tup [a, b] => some ((τ.set i (.va a)).set j (.va b))
  | _ => none
def loop (t : Tgt) (body : StF) : List D → StF
  | [], τ => some (.nx τ)
  | x :: xs, τ => match t x τ with
    | none => none
    | some τ1 => match body τ1 with
      | some (.nx τ') => loop t body xs τ'
      | some (.ct τ') => loop t body xs τ'
      | some (.bk τ') => some (.nx τ')
      | o => o
def sFor (src : Src) (t : Tgt) (body : StF) : StF := fun τ => match src τ with
  | some (.ok ds) => loop t body ds τ
  | some (.ex c) => some (.ex c τ)
  | none => none

/-! ### comprehensions -/
def wipeT (τ : Ev) : List Nat → Ev
  | [] => τ
  | v :: vs => (wipeT τ vs).set v .un
def compGo (t : Tgt) (cond body : ExF) (τ : Ev) : List D → Option (List D)
  | [] => some []
  | x :: xs => match t x τ with
    | none => none
    | some τ1 => match cond τ1 with
      | some (.ok r) => (match asB r with
        | some true => (match body τ1 with
          | some (.ok r) => (match compGo t cond body τ xs with
            | some ds => some (r.d :: ds)
            | none => none)
          | _ => none)
        | some false => compGo t cond body τ xs
        | none => none)
      | _ => none
def yes : ExF := eC (.bl true)
def eComp (src : Src) (t : Tgt) (vs : List Nat) (cond body : ExF) : ExF := fun τ => ab (src τ) fun ds => match compGo t cond body (wipeT τ vs) ds with
  | some es => if ds.length ≤ line then some (.ok (.own es)) else none
  | none => none

/-! ### try: an exception of the class c ends in a value -/
/-- try: body except C as e: return q; b tells whether the clause takes the class, q what is returned -/
def sTry (i : Nat) (body : StF) (b : Str → Option Bool) (q : Str → Option D) : StF := fun τ => match body τ with
  | some (.ex c τ') => (match b c with
    | some true => (match q c with
      | some d => if i < τ'.length then some (.rt (.v d)) else none
      | none => none)
    | some false => some (.ex c τ')
    | none => none)
  | o => o

/-! ### a def -/
def fnRun (np nl : Nat) (b : StF) : Gf := fun ds => if ds.length = np then (match b (ds.map .va ++ List.replicate (nl - np) .un) with
  | some (.rt r) => some (.ok r)
  | some (.nx _) => okD .non
  | some (.ex c _) => some (.ex c)
  | _ => none) else none
end Pv
set_option Elab.async false
set_option linter.all false
set_option maxRecDepth 100000
set_option maxHeartbeats 2000000
/-! I2: the evaluator's steps are the layer's readings: what a value stands for in a heap, how heaps grow, the state of a body. -/
namespace Pw
open PySem PySem.Spec PyProof.Rows L2 Pv

/-! ### heaps that grow -/
def Ex (H H' : Hp) : Prop := ∀ (b : Addr) (u : HO), H b = some u → H' b = some u
theorem Ex.refl (H : Hp) : Ex H H := fun _ _ same => same
theorem Ex.trans {H H1 H2 : Hp} (a : Ex H H1) (b : Ex H1 H2) : Ex H H2 := fun x u q => b x u (a x u q)
theorem Ex.new {H : Hp} {p : Addr} {o : HO} (h : H p = none) : Ex H (upd H p o) := fun (a : Addr) (u : HO) e => by
  rw [upd_ne (ne_of_none e h)]
  exact e
theorem Ex.none {H H' : Hp} {p : Addr} (e : Ex H H') (h : H' p = Option.none) : H p = Option.none := by
  cases q : H p with
  | none => rfl
  | some o =>
    rw [e p o q] at h
    cases h
theorem Ex.rd {H H' : Hp} {a : Addr} {u : HO} (e : Ex H H') (h : Rd H a u) : Rd H' a u := by
  rcases h with h | ⟨o, h⟩
  · exact .inl (e a _ h)
  · exact .inr ⟨o, e a _ h⟩
theorem Ex.sl {K : PySem.W.Frag} {H H' : Hp} {a : Addr} {xs : List V} (e : Ex H H') (h : SqL K H a xs) : SqL K H' a xs := h.elim (fun h => .inl (e.rd h)) .inr
theorem Ex.st {K : PySem.W.Frag} {H H' : Hp} {a : Addr} {xs : List V} (e : Ex H H') (h : SqT K H a xs) : SqT K H' a xs := h.elim (fun h => .inl (e.rd h)) .inr

/-! ### what a value stands for -/
mutual
inductive Rep (K : PySem.W.Frag) (F : Hp) : V → D → Prop
  | non : Rep K F .non .non
  | bl (b : Bool) : Rep K F (.bl b) (.bl b)
  | int (i : Int) : Rep K F (.int i) (.int i)
  | str (x : Str) : Rep K F (.str x) (.str x)
  | lst {a : Addr} {xs : List V} {ds : List D} : F a = some (.lst xs) → Reps K F xs ds → Rep K F (.ref a) (.lst ds)
  | tup {a : Addr} {xs : List V} {ds : List D} : SqT K F a xs → Reps K F xs ds → Rep K F (.ref a) (.tup ds)
  | scr {a : Addr} {ns : List Int} : SqL K F a (ns.map V.int) → Rep K F (.ref a) (.scr ns)
  | adr (a : Addr) : Rep K F (.ref a) (.adr a)
inductive Reps (K : PySem.W.Frag) (F : Hp) : List V → List D → Prop
  | nil : Reps K F [] []
  | cons {v : V} {vs : List V} {d : D} {ds : List D} : Rep K F v d → Reps K F vs ds → Reps K F (v :: vs) (d :: ds)
end
section
variable {K : PySem.W.Frag} {F F' G H H' H1 H2 F1 F2 : Hp}
mutual
theorem Rep.mono (e : Ex F F') : ∀ {d : D} {v : V}, Rep K F v d → Rep K F' v d
  | .non, _, h => by cases h; exact .non
  | .bl _, _, h => by cases h; exact .bl _
  | .int _, _, h => by cases h; exact .int _
  | .str _, _, h => by cases h; exact .str _
  | .lst ds, _, h => by
    cases h with
    | lst h1 h2 => exact .lst (e _ _ h1) (Reps.mono e h2)
  | .tup ds, _, h => by
    cases h with
    | tup h1 h2 => exact .tup (e.st h1) (Reps.mono e h2)
  | .scr ns, _, h => by
    cases h with
    | scr h1 => exact .scr (e.sl h1)
  | .adr _, _, h => by cases h; exact .adr _
theorem Reps.mono (e : Ex F F') : ∀ {ds : List D} {vs : List V}, Reps K F vs ds → Reps K F' vs ds
  | [], _, h => by cases h; exact .nil
  | d :: ds, _, h => by
    cases h with
    | cons h1 h2 => exact .cons (Rep.mono e h1) (Reps.mono e h2)
end
theorem Reps.length : ∀ {vs : List V} {ds : List D}, Reps K F vs ds → vs.length = ds.length
  | [], _, h => by cases h; rfl
  | v :: vs, _, h => by
    cases h with
    | cons h1 h2 =>
      show vs.length + 1 = _ + 1
      rw [h2.length]
theorem Reps.append : ∀ {vs ws : List V} {ds es : List D}, Reps K F vs ds → Reps K F ws es → Reps K F (vs ++ ws) (ds ++ es)
  | [], _, _, _, h, k => by cases h; exact k
  | v :: vs, _, _, _, h, k => by
    cases h with
    | cons h1 h2 => exact .cons h1 (h2.append k)
theorem Reps.get : ∀ {vs : List V} {ds : List D} {i : Nat} {d : D}, Reps K F vs ds → ds[i]? = some d → ∃ v, vs[i]? = some v ∧ Rep K F v d
  | _, _, _, _, .nil, e => by simp at e
  | _, _, 0, _, .cons h1 h2, e => by
    simp at e
    subst e
    exact ⟨_, rfl, h1⟩
  | _, _, i + 1, _, .cons h1 h2, e => by
    obtain ⟨v, e1, r⟩ := h2.get (by simpa using e)
    exact ⟨v, by simpa using e1, r⟩
theorem Reps.set {v : V} {d : D} (r : Rep K F v d) : ∀ {vs : List V} {ds : List D} (i : Nat), Reps K F vs ds → Reps K F (vs.set i v) (ds.set i d)
  | _, _, _, .nil => .nil
  | _, _, 0, .cons _ t => .cons r t
  | _, _, i + 1, .cons q t => .cons q (Reps.set r i t)
theorem Reps.ints : ∀ (ns : List Int), Reps K F (ns.map V.int) (ns.map D.int)
  | [] => .nil
  | n :: ns => .cons (.int n) (Reps.ints ns)

/-! ### flat data does not lean on lists -/
mutual
theorem Rep.off (hT : ∀ a o, F a = some o → (∀ xs, o ≠ .lst xs) → F' a = some o) : ∀ {d : D} {v : V}, d.flat = true → Rep K F v d → Rep K F' v d
  | .non, _, _, h => by cases h; exact .non
  | .bl _, _, _, h => by cases h; exact .bl _
  | .int _, _, _, h => by cases h; exact .int _
  | .str _, _, _, h => by cases h; exact .str _
  | .lst ds, _, z, h => by cases z
  | .scr ds, _, z, h => by cases z
  | .adr _, _, _, h => by cases h; exact .adr _
  | .tup ds, _, z, h => by
    cases h with
    | tup h1 h2 =>
      refine .tup ?_ (Reps.off hT (show D.flats ds = true from z) h2)
      rcases h1 with h1 | h1
      · rcases h1 with h1 | ⟨o, h1⟩
        · exact .inl (.inl (hT _ _ h1 (fun _ q => by cases q)))
        · exact .inl (.inr ⟨o, hT _ _ h1 (fun _ q => by cases q)⟩)
      · exact .inr h1
theorem Reps.off (hT : ∀ a o, F a = some o → (∀ xs, o ≠ .lst xs) → F' a = some o) : ∀ {ds : List D} {vs : List V}, D.flats ds = true → Reps K F vs ds → Reps K F' vs ds
  | [], _, _, h => by cases h; exact .nil
  | d :: ds, _, z, h => by
    have z' : (d.flat && D.flats ds) = true := z
    rw [Bool.and_eq_true] at z'
    cases h with
    | cons h1 h2 => exact .cons (Rep.off hT z'.1 h1) (Reps.off hT z'.2 h2)
end

/-! ### the growth of the known part F and of the heap H -/
structure Pst (F H F' H' : Hp) : Prop where
  hh : Ex H H'
  ff : Ex F F'
  nw : ∀ a o, F' a = some o → F a = some o ∨ H a = none
  fh : Ex F' H'
theorem Pst.refl (e : Ex F H) : Pst F H F H := ⟨Ex.refl H, Ex.refl F, fun _ _ h => .inl h, e⟩
theorem Pst.trans (a : Pst F H F1 H1) (b : Pst F1 H1 F2 H2) : Pst F H F2 H2 := ⟨a.hh.trans b.hh, a.ff.trans b.ff, fun x o h => by
  rcases b.nw x o h with h | h
  · exact a.nw x o h
  · exact .inr (a.hh.none h), b.fh⟩
/-- the heap alone -/
theorem Pst.heap (a : Pst F H F1 H1) (e : Ex H1 H2) : Pst F H F1 H2 := ⟨a.hh.trans e, a.ff, a.nw, a.fh.trans e⟩
/-- a new object is known -/
theorem Pst.new {p : Addr} {o : HO} (e : Ex F H) (n : H p = none) : Pst F H (upd F p o) (upd H p o) := ⟨Ex.new n, Ex.new (e.none n), fun a u h => by
  by_cases q : a = p
  · exact .inr (q ▸ n)
  · rw [upd_ne q] at h
    exact .inl h, fun a u h => by
  by_cases q : a = p
  · subst q
    rw [upd_same] at h ⊢
    exact h
  · rw [upd_ne q] at h ⊢
    exact e a u h⟩
/-- a new object that is not known -/
theorem Pst.newH {p : Addr} {o : HO} (e : Ex F H) (n : H p = none) : Pst F H F (upd H p o) := (Pst.refl e).heap (Ex.new n)

/-- what an expression has given -/
def RepR (K : PySem.W.Frag) (H F' H' : Hp) (v : V) : R → Prop
  | .v d => Rep K F' v d
  | .own ds => ∃ l xs, v = .ref l ∧ H l = none ∧ F' l = none ∧ H' l = some (.lst xs) ∧ Reps K F' xs ds
theorem RepR.step {v : V} {r : R} (h : RepR K H F1 H1 v r) (p : Pst F1 H1 F2 H2) : RepR K H F2 H2 v r := by
  cases r with
  | v d => exact Rep.mono p.ff h
  | own ds =>
    obtain ⟨l, xs, rfl, n, f, e, r⟩ := h
    refine ⟨l, xs, rfl, n, ?_, p.hh _ _ e, r.mono p.ff⟩
    cases q : F2 l with
    | none => rfl
    | some o =>
      rcases p.nw l o q with z | z
      · rw [f] at z; cases z
      · rw [e] at z; cases z
/-- a new list becomes a value -/
theorem RepR.frz {v : V} {r : R} (p : Pst F H F1 H1) (h : RepR K H F1 H1 v r) : ∃ F2, Pst F H F2 H1 ∧ Ex F1 F2 ∧ Rep K F2 v r.d := by
  cases r with
  | v d => exact ⟨F1, p, Ex.refl _, h⟩
  | own ds =>
    obtain ⟨l, xs, rfl, n, f, e, r⟩ := h
    have x : Ex F1 (upd F1 l (.lst xs)) := Ex.new f
    refine ⟨upd F1 l (.lst xs), ⟨p.hh, p.ff.trans x, fun a o h => ?_, fun a o h => ?_⟩, x, .lst upd_same (r.mono x)⟩
    · by_cases q : a = l
      · exact .inr (q ▸ n)
      · rw [upd_ne q] at h
        exact p.nw a o h
    · by_cases q : a = l
      · subst q
        rw [upd_same] at h
        rw [e]
        exact h
      · rw [upd_ne q] at h
        exact p.fh a o h

/-! ### the state of a body -/
structure Stt (K : PySem.W.Frag) (H0 F0 F : Hp) (τ : List Sl) (σ : L2.St) (H : Hp) : Prop where
  pst : Pst F0 H0 F H
  len : τ.length = σ.length
  val : ∀ (i : Nat) (d : D), τ[i]? = some (Sl.va d) → ∃ v, σ[i]? = some (some v) ∧ Rep K F v d
  own : ∀ (i : Nat) (b : Bool) (ds : List D), τ[i]? = some (Sl.ow b ds) → ∃ l xs, σ[i]? = some (some (V.ref l)) ∧ H l = some (.lst xs) ∧ F l = none ∧ H0 l = none ∧ Reps K F xs ds
  dis : ∀ (i j : Nat) (b c : Bool) (ds es : List D) (l : Addr), τ[i]? = some (Sl.ow b ds) → τ[j]? = some (Sl.ow c es) → σ[i]? = some (some (V.ref l)) → σ[j]? = some (some (V.ref l)) → i = j
variable {H0 F0 : Hp} {τ : List Sl} {σ : L2.St}
theorem Pst.out (p : Pst F H F' H') {l : Addr} {o : HO} (f : F l = none) (e : H l = some o) : F' l = none := by
  cases q : F' l with
  | none => rfl
  | some u =>
    rcases p.nw l u q with z | z
    · rw [f] at z; cases z
    · rw [e] at z; cases z
theorem Stt.step (S : Stt K H0 F0 F τ σ H) (p : Pst F H F' H') : Stt K H0 F0 F' τ σ H' where
  pst := S.pst.trans p
  len := S.len
  val := fun i d e => let ⟨v, e1, r⟩ := S.val i d e; ⟨v, e1, r.mono p.ff⟩
  own := fun i b ds e => let ⟨l, xs, e1, e2, e3, e4, r⟩ := S.own i b ds e; ⟨l, xs, e1, p.hh _ _ e2, p.out e3 e2, e4, r.mono p.ff⟩
  dis := S.dis
theorem getD_some {i : Nat} {s : Sl} (h : τ.getD i .un = s) (hn : s ≠ .un) : τ[i]? = some s := by
  rw [List.getD_eq_getElem?_getD] at h
  cases q : τ[i]? with
  | none => rw [q] at h; exact absurd h.symm hn
  | some x => rw [q] at h; exact congrArg some h
theorem set_get {α : Type} {l : List α} {i j : Nat} {x y : α} (h : (l.set i x)[j]? = some y) : (i = j ∧ x = y) ∨ (i ≠ j ∧ l[j]? = some y) := by
  by_cases q : i = j
  · subst q
    by_cases hl : i < l.length
    · rw [List.getElem?_set_self hl] at h
      exact .inl ⟨rfl, Option.some.inj h⟩
    · rw [List.getElem?_eq_none (by simpa using Nat.le_of_not_lt hl)] at h
      cases h
  · rw [List.getElem?_set_ne q] at h
    exact .inr ⟨q, h⟩
/-- a slot is set to a value -/
theorem Stt.setV {i : Nat} {v : V} {d : D} (S : Stt K H0 F0 F τ σ H) (r : Rep K F v d) : Stt K H0 F0 F (τ.set i (.va d)) (σ.set i (some v)) H where
  pst := S.pst
  len := by rw [List.length_set, List.length_set]; exact S.len
  val := fun j e h => by
    rcases set_get h with ⟨rfl, q⟩ | ⟨n, q⟩
    · cases q
      have hl : i < σ.length := by
        rw [← S.len]
        have := (List.getElem?_eq_some_iff.mp h).1
        simpa using this
      exact ⟨v, List.getElem?_set_self hl, r⟩
    · obtain ⟨w, e1, r1⟩ := S.val j e q
      exact ⟨w, by rw [List.getElem?_set_ne n]; exact e1, r1⟩
  own := fun j b ds h => by
    rcases set_get h with ⟨rfl, q⟩ | ⟨n, q⟩
    · cases q
    · obtain ⟨l, xs, e1, r1⟩ := S.own j b ds q
      exact ⟨l, xs, by rw [List.getElem?_set_ne n]; exact e1, r1⟩
  dis := fun j k b c ds es l h1 h2 h3 h4 => by
    rcases set_get h1 with ⟨rfl, q⟩ | ⟨n1, q1⟩
    · cases q
    · rcases set_get h2 with ⟨rfl, q⟩ | ⟨n2, q2⟩
      · cases q
      · rw [List.getElem?_set_ne n1] at h3
        rw [List.getElem?_set_ne n2] at h4
        exact S.dis j k b c ds es l q1 q2 h3 h4
/-- a slot is set to a new list of its own -/
theorem Stt.setO {i : Nat} {l : Addr} {xs : List V} {ds : List D} {b : Bool} (S : Stt K H0 F0 F τ σ H) (f : F l = none) (e : H l = some (.lst xs)) (h0 : H0 l = none) (r : Reps K F xs ds)
    (nw : ∀ (j : Nat) (c : Bool) (es : List D), j ≠ i → τ[j]? = some (Sl.ow c es) → σ[j]? ≠ some (some (V.ref l))) : Stt K H0 F0 F (τ.set i (.ow b ds)) (σ.set i (some (.ref l))) H where
  pst := S.pst
  len := by rw [List.length_set, List.length_set]; exact S.len
  val := fun j d h => by
    rcases set_get h with ⟨rfl, q⟩ | ⟨n, q⟩
    · cases q
    · obtain ⟨w, e1, r1⟩ := S.val j d q
      exact ⟨w, by rw [List.getElem?_set_ne n]; exact e1, r1⟩
  own := fun j c es h => by
    rcases set_get h with ⟨rfl, q⟩ | ⟨n, q⟩
    · cases q
      have hl : i < σ.length := by
        rw [← S.len]
        have := (List.getElem?_eq_some_iff.mp h).1
        simpa using this
      exact ⟨l, xs, List.getElem?_set_self hl, e, f, h0, r⟩
    · obtain ⟨l, xs, e1, r1⟩ := S.own j c es q
      exact ⟨l, xs, by rw [List.getElem?_set_ne n]; exact e1, r1⟩
  dis := fun j k b1 c ds1 es l1 h1 h2 h3 h4 => by
    have hi : ∀ {u : Sl}, (τ.set i (.ow b ds))[i]? = some u → i < σ.length := fun h => by
      rw [← S.len]
      have := (List.getElem?_eq_some_iff.mp h).1
      simpa using this
    rcases set_get h1 with ⟨rfl, q⟩ | ⟨n1, q1⟩
    · rcases set_get h2 with ⟨rfl, q⟩ | ⟨n2, q2⟩
      · rfl
      · rw [List.getElem?_set_self (hi h1)] at h3
        rw [List.getElem?_set_ne n2] at h4
        have e3 : l = l1 := by
          have := Option.some.inj (Option.some.inj h3)
          exact V.ref.inj this
        subst e3
        exact absurd h4 (nw k c es (Ne.symm n2) q2)
    · rcases set_get h2 with ⟨rfl, q⟩ | ⟨n2, q2⟩
      · rw [List.getElem?_set_self (hi h2)] at h4
        rw [List.getElem?_set_ne n1] at h3
        have e3 : l = l1 := by
          have := Option.some.inj (Option.some.inj h4)
          exact V.ref.inj this
        subst e3
        exact absurd h3 (nw j b1 ds1 (Ne.symm n1) q1)
      · rw [List.getElem?_set_ne n1] at h3
        rw [List.getElem?_set_ne n2] at h4
        exact S.dis j k b1 c ds1 es l1 q1 q2 h3 h4
/-- a slot is set to what an expression has given -/
theorem Stt.setR {i : Nat} {v : V} {r : R} (S : Stt K H0 F0 F τ σ H) (p : Pst F H F1 H1) (h : RepR K H F1 H1 v r) : Stt K H0 F0 F1 (τ.set i r.sl) (σ.set i (some v)) H1 := by
  cases r with
  | v d => exact (S.step p).setV h
  | own ds =>
    obtain ⟨l, xs, rfl, n, f, e, r⟩ := h
    refine (S.step p).setO f e (S.pst.hh.none n) r fun j c es _ q z => ?_
    obtain ⟨l', ys, e1, e2, _⟩ := S.own j c es q
    rw [e1] at z
    have := V.ref.inj (Option.some.inj (Option.some.inj z))
    subst this
    rw [n] at e2
    cases e2
/-- the flags do not matter -/
theorem Stt.flag {i : Nat} {b c : Bool} {ds : List D} (S : Stt K H0 F0 F τ σ H) (h : τ[i]? = some (Sl.ow b ds)) : Stt K H0 F0 F (τ.set i (.ow c ds)) σ H := by
  have key : ∀ {j : Nat} {b' : Bool} {es : List D}, (τ.set i (.ow c ds))[j]? = some (Sl.ow b' es) → ∃ b2, τ[j]? = some (Sl.ow b2 es) := fun {j b' es} q => by
    rcases set_get q with ⟨rfl, z⟩ | ⟨_, z⟩
    · cases z
      exact ⟨b, h⟩
    · exact ⟨b', z⟩
  refine ⟨S.pst, by rw [List.length_set]; exact S.len, fun j d q => ?_, fun j b' es q => ?_, fun j k b1 c1 ds1 es1 l h1 h2 h3 h4 => ?_⟩
  · rcases set_get q with ⟨rfl, z⟩ | ⟨_, z⟩
    · cases z
    · exact S.val j d z
  · obtain ⟨b2, z⟩ := key q
    exact S.own j b2 es z
  · obtain ⟨b2, z1⟩ := key h1
    obtain ⟨b3, z2⟩ := key h2
    exact S.dis j k b2 b3 ds1 es1 l z1 z2 h3 h4
/-- an own list becomes a value -/
theorem Stt.frz {i : Nat} {b : Bool} {ds : List D} (S : Stt K H0 F0 F τ σ H) (h : τ[i]? = some (Sl.ow b ds)) : ∃ l xs, H l = some (.lst xs) ∧ F l = none ∧ Stt K H0 F0 (upd F l (.lst xs)) (τ.set i (.va (.lst ds))) σ H := by
  obtain ⟨l, xs, e1, e2, e3, e4, r⟩ := S.own i b ds h
  have x : Ex F (upd F l (.lst xs)) := Ex.new e3
  refine ⟨l, xs, e2, e3, ⟨⟨S.pst.hh, S.pst.ff.trans x, fun a o q => ?_, fun a o q => ?_⟩, by rw [List.length_set]; exact S.len, fun j d q => ?_, fun j c es q => ?_, fun j k b1 c1 ds1 es1 l1 h1 h2 h3 h4 => ?_⟩⟩
  · by_cases z : a = l
    · exact .inr (z ▸ e4)
    · rw [upd_ne z] at q
      exact S.pst.nw a o q
  · by_cases z : a = l
    · subst z
      rw [upd_same] at q
      rw [e2]
      exact q
    · rw [upd_ne z] at q
      exact S.pst.fh a o q
  · rcases set_get q with ⟨rfl, z⟩ | ⟨_, z⟩
    · cases z
      exact ⟨_, e1, .lst upd_same (r.mono x)⟩
    · obtain ⟨v, q1, q2⟩ := S.val j d z
      exact ⟨v, q1, q2.mono x⟩
  · rcases set_get q with ⟨rfl, z⟩ | ⟨n, z⟩
    · cases z
    · obtain ⟨l', ys, f1, f2, f3, f4, f5⟩ := S.own j c es z
      refine ⟨l', ys, f1, f2, ?_, f4, f5.mono x⟩
      have ne : l' ≠ l := fun q => by
        subst q
        exact n (S.dis i j b c ds es l' h z e1 f1)
      rw [upd_ne ne]
      exact f3
  · rcases set_get h1 with ⟨rfl, z⟩ | ⟨_, z1⟩
    · cases z
    · rcases set_get h2 with ⟨rfl, z⟩ | ⟨_, z2⟩
      · cases z
      · exact S.dis j k b1 c1 ds1 es1 l1 z1 z2 h3 h4
end
end Pw
set_option Elab.async false
set_option linter.all false
set_option maxRecDepth 100000
set_option maxHeartbeats 2000000
/-! I3: expressions, tests, statements: each construct's rule. -/
namespace Pw
open PySem PySem.Spec PyProof.Rows L2 Pv

theorem PE.imp {X : Cx} {e : Expr} {t t' : TE} (h : PE X e t) (k : ∀ σ H Q, t' σ H Q → t σ H Q) : PE X e t' := ⟨fun pins s σ H Q I q => h.run pins s σ H Q I (k σ H Q q)⟩
theorem PT.imp {X : Cx} {e : Expr} {t t' : TT} (h : PT X e t) (k : ∀ σ H Q, t' σ H Q → t σ H Q) : PT X e t' := ⟨fun pins s σ H Q I q => h.run pins s σ H Q I (k σ H Q q)⟩
theorem PW.imp {X : Cx} {e : Expr} {t t' : TT} (h : PW X e t) (k : ∀ σ H Q, t' σ H Q → t σ H Q) : PW X e t' := ⟨fun wh pins s σ H Q I q => h.run wh pins s σ H Q I (k σ H Q q)⟩
theorem PA.imp {X : Cx} {es : List Expr} {t t' : TA} (h : PA X es t) (k : ∀ σ H Q, t' σ H Q → t σ H Q) : PA X es t' := ⟨fun pos pins s σ H Q I q => h.run pos pins s σ H Q I (k σ H Q q)⟩
theorem PS.imp {X : Cx} {st : Stmt} {t t' : TS} (h : PS X st t) (k : ∀ D σ H, t' D σ H → t D σ H) : PS X st t' := ⟨fun pins s σ H D I q => h.run pins s σ H D I (k D σ H q)⟩
theorem PSs.imp {X : Cx} {st : List Stmt} {t t' : TS} (h : PSs X st t) (k : ∀ D σ H, t' D σ H → t D σ H) : PSs X st t' := ⟨fun pins s σ H D I q => h.run pins s σ H D I (k D σ H q)⟩

/-- a class by its name -/
def cv (K : PySem.W.Frag) (c : Str) : Value := .ref (He.ga K c)
section
variable {K : PySem.W.Frag} {W : WX} {F F1 H H1 H2 : Hp} {σ : L2.St}
def EndE (K : PySem.W.Frag) (W : WX) (F : Hp) (σ : L2.St) (H : Hp) (Q : VK) : Option Res → Prop
  | none => False
  | some (.ok r) => ∀ v F' H', Pst F H F' H' → RepR K H F' H' v r → Q v H'
  | some (.ex c) => ∀ F' H', Pst F H F' H' → W (cv K c) none σ H'
def tE (K : PySem.W.Frag) (W : WX) (f : ExF) : TE := fun σ H Q => ∃ (H0 F0 F : Hp) (τ : List Sl), Stt K H0 F0 F τ σ H ∧ EndE K W F σ H Q (f τ)
theorem RepR.back {F' H' : Hp} {v : V} {r : R} (e : Ex H H1) (h : RepR K H1 F' H' v r) : RepR K H F' H' v r := by
  cases r with
  | v d => exact h
  | own ds =>
    obtain ⟨l, xs, e1, n, z⟩ := h
    exact ⟨l, xs, e1, e.none n, z⟩
theorem EndE.mono {Q Q' : VK} {z : Option Res} (h : EndE K W F σ H Q z) (k : ∀ v H', Q v H' → Q' v H') : EndE K W F σ H Q' z := by
  cases z with
  | none => exact h
  | some r =>
    cases r with
    | ok r => exact fun v F' H' p q => k _ _ (h v F' H' p q)
    | ex c => exact h
theorem EndE.shift {Q : VK} {z : Option Res} (h : EndE K W F σ H Q z) (p : Pst F H F1 H1) : EndE K W F1 σ H1 Q z := by
  cases z with
  | none => exact h
  | some r =>
    cases r with
    | ok r => exact fun v F' H' p' q => h v F' H' (p.trans p') (q.back p.hh)
    | ex c => exact fun F' H' p' => h F' H' (p.trans p')
/-- one expression, then what hangs on it -/
theorem EndE.seq {Q : VK} {x : Option Res} {k : R → Option Res} (h : EndE K W F σ H Q (bd x k)) :
    EndE K W F σ H (fun v H1 => ∃ r F1, Pst F H F1 H1 ∧ Rep K F1 v r.d ∧ EndE K W F1 σ H1 Q (k r)) x := by
  cases x with
  | none => exact h
  | some z =>
    cases z with
    | ex c => exact h
    | ok r =>
      intro v F1 H1 p q
      obtain ⟨F2, p2, _, r2⟩ := q.frz p
      exact ⟨r, F2, p2, r2, EndE.shift (show EndE K W F σ H Q (k r) from h) p2⟩
def EndT (K : PySem.W.Frag) (W : WX) (F : Hp) (σ : L2.St) (H : Hp) (Q : Bool → Hp → Prop) : Option Res → Prop
  | none => False
  | some (.ok r) => (match asB r with
    | some b => ∀ F' H', Pst F H F' H' → Q b H'
    | none => False)
  | some (.ex c) => ∀ F' H', Pst F H F' H' → W (cv K c) none σ H'
def tT (K : PySem.W.Frag) (W : WX) (f : ExF) : TT := fun σ H Q => ∃ (H0 F0 F : Hp) (τ : List Sl), Stt K H0 F0 F τ σ H ∧ EndT K W F σ H Q (f τ)
theorem asB_some {r : R} {b : Bool} (h : asB r = some b) : r = .v (.bl b) := by
  cases r with
  | v d =>
    cases d with
    | bl c =>
      have : c = b := Option.some.inj h
      rw [this]
    | _ => cases h
  | own ds => cases h
/-- an end of a test is an end of an expression -/
theorem EndT.ofE {Q : Bool → Hp → Prop} {z : Option Res} (h : EndT K W F σ H Q z) : EndE K W F σ H (fun v H' => ∃ b, v = .bl b ∧ Q b H') z := by
  cases z with
  | none => exact h
  | some r =>
    cases r with
    | ex c => exact h
    | ok r =>
      intro v F' H' p q
      have h' : (match asB r with
        | some b => ∀ F' H', Pst F H F' H' → Q b H'
        | none => False) := h
      cases e : asB r with
      | none => rw [e] at h'; exact h'.elim
      | some b =>
        rw [e] at h'
        have := asB_some e
        subst this
        have q' : Rep K F' v (.bl b) := q
        cases q'
        exact ⟨b, rfl, h' F' H' p⟩
theorem EndT.toE {Q : VK} {z : Option Res} {k : R → Option Res} (hk : ∀ r, asB r = none → k r = none) (h : EndE K W F σ H Q (bd z k)) :
    EndT K W F σ H (fun b H1 => ∃ F1, Pst F H F1 H1 ∧ EndE K W F1 σ H1 Q (k (.v (.bl b)))) z := by
  cases z with
  | none => exact h
  | some r =>
    cases r with
    | ex c => exact h
    | ok r =>
      show (match asB r with
        | some b => ∀ F' H', Pst F H F' H' → ∃ F1, Pst F H F1 H' ∧ EndE K W F1 σ H' Q (k (.v (.bl b)))
        | none => False)
      have h' : EndE K W F σ H Q (k r) := h
      cases e : asB r with
      | none => rw [hk r e] at h'; exact h'
      | some b =>
        have := asB_some e
        subst this
        exact fun F' H' p => ⟨F', p, h'.shift p⟩
theorem EndT.mono {Q Q' : Bool → Hp → Prop} {z : Option Res} (h : EndT K W F σ H Q z) (k : ∀ v H', Q v H' → Q' v H') : EndT K W F σ H Q' z := by
  cases z with
  | none => exact h
  | some r =>
    cases r with
    | ex c => exact h
    | ok r =>
      show (match asB r with
        | some b => ∀ F' H', Pst F H F' H' → Q' b H'
        | none => False)
      have h' : (match asB r with
        | some b => ∀ F' H', Pst F H F' H' → Q b H'
        | none => False) := h
      cases e : asB r with
      | none => rw [e] at h'; exact h'
      | some b => rw [e] at h'; exact fun F' H' p => k _ _ (h' F' H' p)
theorem EndT.shift {Q : Bool → Hp → Prop} {z : Option Res} (h : EndT K W F σ H Q z) (p : Pst F H F1 H1) : EndT K W F1 σ H1 Q z := by
  cases z with
  | none => exact h
  | some r =>
    cases r with
    | ex c => exact fun F' H' p' => h F' H' (p.trans p')
    | ok r =>
      show (match asB r with
        | some b => ∀ F' H', Pst F1 H1 F' H' → Q b H'
        | none => False)
      have h' : (match asB r with
        | some b => ∀ F' H', Pst F H F' H' → Q b H'
        | none => False) := h
      cases e : asB r with
      | none => rw [e] at h'; exact h'
      | some b => rw [e] at h'; exact fun F' H' p' => h' F' H' (p.trans p')
/-- a test within a test -/
theorem EndT.seq {Q : Bool → Hp → Prop} {z : Option Res} {k : R → Option Res} (hk : ∀ r, asB r = none → k r = none) (h : EndT K W F σ H Q (bd z k)) :
    EndT K W F σ H (fun b H1 => ∃ F1, Pst F H F1 H1 ∧ EndT K W F1 σ H1 Q (k (.v (.bl b)))) z := by
  cases z with
  | none => exact h
  | some r =>
    cases r with
    | ex c => exact h
    | ok r =>
      show (match asB r with
        | some b => ∀ F' H', Pst F H F' H' → ∃ F1, Pst F H F1 H' ∧ EndT K W F1 σ H' Q (k (.v (.bl b)))
        | none => False)
      have h' : EndT K W F σ H Q (k r) := h
      cases e : asB r with
      | none => rw [hk r e] at h'; exact h'
      | some b =>
        have := asB_some e
        subst this
        exact fun F' H' p => ⟨F', p, h'.shift p⟩
def EndA (K : PySem.W.Frag) (W : WX) (F : Hp) (σ : L2.St) (H : Hp) (Q : List V → Hp → Prop) : Option Rs → Prop
  | none => False
  | some (.ok ds) => ∀ vs F' H', Pst F H F' H' → Reps K F' vs ds → Q vs H'
  | some (.ex c) => ∀ F' H', Pst F H F' H' → W (cv K c) none σ H'
def tAs (K : PySem.W.Frag) (W : WX) (fs : List ExF) : TA := fun σ H Q => ∃ (H0 F0 F : Hp) (τ : List Sl), Stt K H0 F0 F τ σ H ∧ EndA K W F σ H Q (eArgs fs τ)
theorem EndA.seq {Q : VK} {x : Option Rs} {k : List D → Option Res} (h : EndE K W F σ H Q (ab x k)) :
    EndA K W F σ H (fun vs H1 => ∃ ds F1, x = some (.ok ds) ∧ Pst F H F1 H1 ∧ Reps K F1 vs ds ∧ EndE K W F1 σ H1 Q (k ds)) x := by
  cases x with
  | none => exact h
  | some z =>
    cases z with
    | ex c => exact h
    | ok ds =>
      intro v F1 H1 p q
      exact ⟨ds, F1, rfl, p, q, EndE.shift (show EndE K W F σ H Q (k ds) from h) p⟩
theorem EndA.mono {Q Q' : List V → Hp → Prop} {z : Option Rs} (h : EndA K W F σ H Q z) (k : ∀ v H', Q v H' → Q' v H') : EndA K W F σ H Q' z := by
  cases z with
  | none => exact h
  | some r =>
    cases r with
    | ok r => exact fun v F' H' p q => k _ _ (h v F' H' p q)
    | ex c => exact h
end

abbrev SE (X : Cx) (W : WX) (e : Expr) (f : ExF) : Prop := PE X e (tE X.K W f)
abbrev ST (X : Cx) (W : WX) (e : Expr) (f : ExF) : Prop := PT X e (tT X.K W f)
abbrev SW (X : Cx) (W : WX) (e : Expr) (f : ExF) : Prop := PW X e (tT X.K W f)
abbrev SA (X : Cx) (W : WX) (es : List Expr) (fs : List ExF) : Prop := PA X es (tAs X.K W fs)

section
variable {X : Cx} {W : WX} {e a b c : Expr} {f g h : ExF} {pos : Pos} {es : List Expr} {fs : List ExF}
/-! ### names, constants -/
theorem se_var {i : Nat} {x : Str} {p : Pos} (hv : PE X (.Name x p) (tVar i)) : SE X W (.Name x p) (eVar i) := PE.imp hv fun σ H Q ⟨H0, F0, F, τ, S, h⟩ => by
  unfold eVar at h
  cases q : τ.getD i .un with
  | un => rw [q] at h; exact h.elim
  | ow b ds => rw [q] at h; exact h.elim
  | va d =>
    rw [q] at h
    obtain ⟨v, e1, r⟩ := S.val i d (getD_some q (by intro z; cases z))
    exact ⟨v, e1, h v F H (Pst.refl S.pst.fh) r⟩
theorem se_c {v : V} {d : D} (hc : PE X e (tC v)) (r : ∀ F, Rep X.K F v d) : SE X W e (eC d) := PE.imp hc fun σ H Q ⟨H0, F0, F, τ, S, h⟩ => h v F H (Pst.refl S.pst.fh) (r F)
theorem se_int {i : Int} {j p} : SE X W (.Constant (.int i) j p) (eC (.int i)) := se_c pe_int fun _ => .int i
theorem se_bl {i : Bool} {j p} : SE X W (.Constant (.bool i) j p) (eC (.bl i)) := se_c pe_bl fun _ => .bl i
theorem se_non {j p} : SE X W (.Constant .none j p) (eC .non) := se_c pe_non fun _ => .non
theorem se_str {i : Str} {j p} : SE X W (.Constant (.str i) j p) (eC (.str i)) := se_c pe_str fun _ => .str i

/-! ### operators -/
def OpS (K : PySem.W.Frag) (r2 : R2) (o : D → D → Option R) : Prop := ∀ (x y : V) (F H : Hp) (a b : D) (r : R), Ex F H → Rep K F x a → Rep K F y b → o a b = some r →
  ∀ Q : VK, (∀ v F' H', Pst F H F' H' → RepR K H F' H' v r → Q v H') → r2 x y H Q
theorem okR_end {K : PySem.W.Frag} {F H : Hp} {σ : L2.St} {Q : VK} {o : Option R} (h : EndE K W F σ H Q (okR o)) : ∃ r, o = some r ∧ ∀ v F' H', Pst F H F' H' → RepR K H F' H' v r → Q v H' := by
  cases o with
  | none => exact h.elim
  | some r => exact ⟨r, rfl, h⟩
theorem two_end {r2 : R2} {o : D → D → Option R} (hs : OpS X.K r2 o) {σ : L2.St} {H : Hp} {Q : VK} (h : tE X.K W (eBin o f g) σ H Q) : tOp r2 (tE X.K W f) (tE X.K W g) σ H Q := by
  obtain ⟨H0, F0, F, τ, S, h⟩ := h
  refine ⟨H0, F0, F, τ, S, EndE.mono (EndE.seq h) fun x H1 ⟨ra, F1, p1, r1, h1⟩ => ?_⟩
  refine ⟨H0, F0, F1, τ, S.step p1, EndE.mono (EndE.seq h1) fun y H2 ⟨rb, F2, p2, r2, h2⟩ => ?_⟩
  obtain ⟨r, e, k⟩ := okR_end h2
  exact hs x y F2 H2 ra.d rb.d r p2.fh (r1.mono p2.ff) r2 e Q k
theorem se_bin {op : Operator} {r2 : R2} {o : D → D → Option R} (ho : OpR X (binaryOp op) r2) (hs : OpS X.K r2 o) (ha : SE X W a f) (hb : SE X W b g) : SE X W (.BinOp a op b pos) (eBin o f g) :=
  PE.imp (pe_op ho ha hb) fun σ H Q h => two_end hs h
theorem se_cmp {op : CmpOp} {r2 : R2} {o : D → D → Option R} (ho : OpR X (compareOp op) r2) (hs : OpS X.K r2 o) (ha : SE X W a f) (hb : SE X W b g) (hm : behindInMarks op b = false) : SE X W (.Compare a [op] [b] pos) (eBin o f g) :=
  PE.imp (pe_cmpR ho ha hb hm) fun σ H Q h => two_end hs h
theorem st_cmp {op : CmpOp} {r2 : R2} {o : D → D → Option R} (ho : OpR X (compareOp op) r2) (hs : OpS X.K r2 o) (ha : SE X W a f) (hb : SE X W b g) (hm : behindInMarks op b = false) : ST X W (.Compare a [op] [b] pos) (eBin o f g) :=
  PT.imp (pt_cmpR ho ha hb hm) fun σ H Q ⟨H0, F0, F, τ, S, h⟩ => two_end (Q := fun x H' => ∃ k, x = .bl k ∧ Q k H') hs ⟨H0, F0, F, τ, S, EndT.ofE h⟩
def UnS (K : PySem.W.Frag) (r1 : V → Hp → VK → Prop) (o : D → Option R) : Prop := ∀ (x : V) (F H : Hp) (a : D) (r : R), Ex F H → Rep K F x a → o a = some r →
  ∀ Q : VK, (∀ v F' H', Pst F H F' H' → RepR K H F' H' v r → Q v H') → r1 x H Q
theorem se_un {op : UnaryOp} {r1 : V → Hp → VK → Prop} {o : D → Option R} (ho : UnR X (unaryOp op) r1) (hs : UnS X.K r1 o) (ha : SE X W a f) : SE X W (.UnaryOp op a pos) (eUn o f) :=
  PE.imp (pe_un ho ha) fun σ H Q ⟨H0, F0, F, τ, S, h⟩ => by
    refine ⟨H0, F0, F, τ, S, EndE.mono (EndE.seq h) fun x H1 ⟨ra, F1, p1, r1, h1⟩ => ?_⟩
    obtain ⟨r, e, k⟩ := okR_end h1
    exact hs x F1 H1 ra.d r p1.fh r1 e Q k
/-- an operator of values gives a value that needs no place -/
theorem opS_v {K : PySem.W.Frag} {r2 : R2} {o : D → D → Option R} (h : ∀ (x y : V) (F H : Hp) (a b : D) (r : R), Ex F H → Rep K F x a → Rep K F y b → o a b = some r → ∃ v d, r = .v d ∧ (∀ F, Rep K F v d) ∧ ∀ Q : VK, Q v H → r2 x y H Q) : OpS K r2 o :=
  fun x y F H a b r e r1 r2 eo Q k => by
    obtain ⟨v, d, rfl, rd, q⟩ := h x y F H a b r e r1 r2 eo
    exact q Q (k v F H (Pst.refl e) (rd F))
theorem unS_v {K : PySem.W.Frag} {r1 : V → Hp → VK → Prop} {o : D → Option R} (h : ∀ (x : V) (F H : Hp) (a : D) (r : R), Ex F H → Rep K F x a → o a = some r → ∃ v d, r = .v d ∧ (∀ F, Rep K F v d) ∧ ∀ Q : VK, Q v H → r1 x H Q) : UnS K r1 o :=
  fun x F H a r e r1 eo Q k => by
    obtain ⟨v, d, rfl, rd, q⟩ := h x F H a r e r1 eo
    exact q Q (k v F H (Pst.refl e) (rd F))

/-! ### and, or, not, if -/
def kAnd (g : ExF) (τ : List Sl) : R → Option Res := fun a => match asB a with
  | some true => g τ
  | some false => okD (.bl false)
  | none => none
theorem asBk {α : Type} {a : R} {x y : Option α} (h : asB a = none) : (match asB a with
  | some true => x
  | some false => y
  | none => none) = none := by rw [h]
theorem asBn {a : R} {k : Bool → Option Res} (h : asB a = none) : (match asB a with
  | some b => k b
  | none => none) = none := by rw [h]
theorem EndT.fin {K : PySem.W.Frag} {F H : Hp} {σ : L2.St} {Q : Bool → Hp → Prop} {b : Bool} (h : EndT K W F σ H Q (okD (.bl b))) (e : Ex F H) : Q b H := h F H (Pst.refl e)
theorem sw_and1 (ha : ST X W a f) : SW X W (.BoolOp .And [a] pos) f := pw_and1 ha
theorem sw_or1 (ha : ST X W a f) : SW X W (.BoolOp .Or [a] pos) f := pw_or1 ha
theorem sw_and {rest : List Expr} (ha : ST X W a f) (hb : SW X W (.BoolOp .And (b :: rest) pos) g) : SW X W (.BoolOp .And (a :: b :: rest) pos) (eAnd f g) :=
  PW.imp (pw_and ha hb) fun σ H Q ⟨H0, F0, F, τ, S, h⟩ => by
    refine ⟨H0, F0, F, τ, S, EndT.mono (EndT.seq (fun r z => asBk z) h) fun k H1 ⟨F1, p1, h1⟩ => ?_⟩
    cases k with
    | true => exact ⟨H0, F0, F1, τ, S.step p1, h1⟩
    | false => exact EndT.fin h1 p1.fh
theorem sw_or {rest : List Expr} (ha : ST X W a f) (hb : SW X W (.BoolOp .Or (b :: rest) pos) g) : SW X W (.BoolOp .Or (a :: b :: rest) pos) (eOr f g) :=
  PW.imp (pw_or ha hb) fun σ H Q ⟨H0, F0, F, τ, S, h⟩ => by
    refine ⟨H0, F0, F, τ, S, EndT.mono (EndT.seq (fun r z => asBk z) h) fun k H1 ⟨F1, p1, h1⟩ => ?_⟩
    cases k with
    | true => exact EndT.fin h1 p1.fh
    | false => exact ⟨H0, F0, F1, τ, S.step p1, h1⟩
theorem st_w (h : SW X W e f) : ST X W e f := PW.pt h
theorem st_not (ha : ST X W a f) : ST X W (.UnaryOp .Not a pos) (eNot f) := PT.imp (pt_not ha) fun σ H Q ⟨H0, F0, F, τ, S, h⟩ =>
  ⟨H0, F0, F, τ, S, EndT.mono (EndT.seq (fun r z => asBn z) h) fun k H1 ⟨F1, p1, h1⟩ => EndT.fin h1 p1.fh⟩
theorem st_val (he : SE X W e f) (hp : ∀ whole, isTrue e X.env whole = (do let v ← whole; standAt e.pos; holding [v] (truthy v)) := by intro _; rfl) : ST X W e f :=
  PT.imp (pt_val he hp) fun σ H Q ⟨H0, F0, F, τ, S, h⟩ => ⟨H0, F0, F, τ, S, EndT.ofE h⟩
/-- as values -/
theorem EndE.fin {K : PySem.W.Frag} {F H : Hp} {σ : L2.St} {Q : VK} {b : Bool} (h : EndE K W F σ H Q (okD (.bl b))) (e : Ex F H) : Q (.bl b) H := h _ F H (Pst.refl e) (.bl b)
theorem se_one {op} (ha : SE X W a f) : SE X W (.BoolOp op [a] pos) f := pe_one ha
theorem EndE.seqB {K : PySem.W.Frag} {F H : Hp} {σ : L2.St} {Q : VK} {z : Option Res} {k : R → Option Res} (hk : ∀ r, asB r = none → k r = none) (h : EndE K W F σ H Q (bd z k)) :
    EndE K W F σ H (fun v H1 => ∃ b F1, v = .bl b ∧ Pst F H F1 H1 ∧ EndE K W F1 σ H1 Q (k (.v (.bl b)))) z :=
  EndE.mono (EndT.ofE (EndT.toE hk h)) fun v H1 ⟨b, e, F1, p, q⟩ => ⟨b, F1, e, p, q⟩
theorem se_and {rest : List Expr} (ha : SE X W a f) (hb : SE X W (.BoolOp .And (b :: rest) pos) g) : SE X W (.BoolOp .And (a :: b :: rest) pos) (eAnd f g) :=
  PE.imp (pe_and ha hb) fun σ H Q ⟨H0, F0, F, τ, S, h⟩ => by
    refine ⟨H0, F0, F, τ, S, EndE.mono (EndE.seqB (fun r z => asBk z) h) fun v H1 ⟨k, F1, e, p1, h1⟩ => ⟨k, e, ?_⟩⟩
    cases k with
    | true => exact ⟨H0, F0, F1, τ, S.step p1, h1⟩
    | false => exact EndE.fin h1 p1.fh
theorem se_or {rest : List Expr} (ha : SE X W a f) (hb : SE X W (.BoolOp .Or (b :: rest) pos) g) : SE X W (.BoolOp .Or (a :: b :: rest) pos) (eOr f g) :=
  PE.imp (pe_or ha hb) fun σ H Q ⟨H0, F0, F, τ, S, h⟩ => by
    refine ⟨H0, F0, F, τ, S, EndE.mono (EndE.seqB (fun r z => asBk z) h) fun v H1 ⟨k, F1, e, p1, h1⟩ => ⟨k, e, ?_⟩⟩
    cases k with
    | true => exact EndE.fin h1 p1.fh
    | false => exact ⟨H0, F0, F1, τ, S.step p1, h1⟩
theorem se_not (ha : SE X W a f) : SE X W (.UnaryOp .Not a pos) (eNot f) := PE.imp (pe_not ha) fun σ H Q ⟨H0, F0, F, τ, S, h⟩ =>
  ⟨H0, F0, F, τ, S, EndE.mono (EndE.seqB (fun r z => asBn z) h) fun v H1 ⟨k, F1, e, p1, h1⟩ => ⟨k, e, EndE.fin h1 p1.fh⟩⟩
theorem se_ite (hc : ST X W c h) (ha : SE X W a f) (hb : SE X W b g) : SE X W (.IfExp c a b pos) (eIte h f g) := PE.imp (pe_ifExp hc ha hb) fun σ H Q ⟨H0, F0, F, τ, S, q⟩ => by
  refine ⟨H0, F0, F, τ, S, EndT.mono (EndT.toE (fun r z => asBk z) q) fun k H1 ⟨F1, p1, h1⟩ => ?_⟩
  cases k with
  | true => exact ⟨H0, F0, F1, τ, S.step p1, h1⟩
  | false => exact ⟨H0, F0, F1, τ, S.step p1, h1⟩

/-! ### arguments, displays -/
theorem sa_nil : SA X W [] [] := PA.imp pa_nil fun σ H Q ⟨H0, F0, F, τ, S, h⟩ => h [] F H (Pst.refl S.pst.fh) .nil
theorem consR_end {K : PySem.W.Frag} {F H : Hp} {σ : L2.St} {Q : List V → Hp → Prop} {d : D} {v : V} {z : Option Rs} (rv : Rep K F v d) (h : EndA K W F σ H Q (consR d z)) : EndA K W F σ H (fun vs H' => Q (v :: vs) H') z := by
  cases z with
  | none => exact h
  | some r =>
    cases r with
    | ex c => exact h
    | ok ds => exact fun vs F' H' p r => h (v :: vs) F' H' p (.cons (rv.mono p.ff) r)
theorem EndA.shift {K : PySem.W.Frag} {F H F1 H1 : Hp} {σ : L2.St} {Q : List V → Hp → Prop} {z : Option Rs} (h : EndA K W F σ H Q z) (p : Pst F H F1 H1) : EndA K W F1 σ H1 Q z := by
  cases z with
  | none => exact h
  | some r =>
    cases r with
    | ok r => exact fun v F' H' p' q => h v F' H' (p.trans p') q
    | ex c => exact fun F' H' p' => h F' H' (p.trans p')
theorem sa_cons (ha : SE X W e f) (hr : SA X W es fs) (hs : starEach (e :: es) X.env = (false, eval e X.env) :: starEach es X.env := by rfl) : SA X W (e :: es) (f :: fs) := PA.imp (pa_cons ha hr hs) fun σ H Q ⟨H0, F0, F, τ, S, h⟩ => by
  refine ⟨H0, F0, F, τ, S, ?_⟩
  unfold eArgs at h
  cases q : f τ with
  | none => rw [q] at h; exact h
  | some r =>
    cases r with
    | ex c => rw [q] at h; exact h
    | ok r =>
      rw [q] at h
      intro v F1 H1 p rv
      obtain ⟨F2, p2, _, r2⟩ := rv.frz p
      exact ⟨H0, F0, F2, τ, S.step p2, consR_end r2 (EndA.shift h p2)⟩
theorem repR_new {K : PySem.W.Frag} {F H : Hp} {p : Addr} {xs : List V} {ds : List D} (e : Ex F H) (n : H p = none) (r : Reps K F xs ds) : RepR K H F (upd H p (.lst xs)) (.ref p) (.own ds) := ⟨p, xs, rfl, n, e.none n, upd_same, r⟩
theorem repV_tup {K : PySem.W.Frag} {F H : Hp} {p : Addr} {xs : List V} {ds : List D} (e : Ex F H) (n : H p = none) (r : Reps K F xs ds) : Rep K (upd F p (.tup xs)) (.ref p) (.tup ds) := .tup (.of upd_same) (r.mono (Ex.new (e.none n)))
theorem line_eq : (Pv.line : Nat) = sizeLine := sizeLine_eq.symm
theorem se_lst (ha : SA X W es fs) : SE X W (.List es pos) (eLst fs) := PE.imp (pe_lst ha) fun σ H Q ⟨H0, F0, F, τ, S, h⟩ => by
  refine ⟨H0, F0, F, τ, S, EndA.mono (EndA.seq h) fun vs H1 ⟨ds, F1, _, p1, r1, h1⟩ => ?_⟩
  have hl := r1.length
  by_cases z : ds.length ≤ Pv.line
  · rw [if_pos z] at h1
    exact ⟨by rw [hl, ← line_eq]; exact z, fun p hp => h1 _ F1 _ (Pst.newH p1.fh hp) (repR_new p1.fh hp r1)⟩
  · rw [if_neg z] at h1
    exact h1.elim
theorem se_tup {k : Nat} (ha : SA X W es fs) : SE X W (.Tuple es k pos) (eTup fs) := PE.imp (pe_tup ha) fun σ H Q ⟨H0, F0, F, τ, S, h⟩ => by
  refine ⟨H0, F0, F, τ, S, EndA.mono (EndA.seq h) fun vs H1 ⟨ds, F1, _, p1, r1, h1⟩ => ?_⟩
  have hl := r1.length
  by_cases z : ds.length ≤ Pv.line
  · rw [if_pos z] at h1
    exact ⟨by rw [hl, ← line_eq]; exact z, fun p hp => h1 _ _ _ (Pst.new p1.fh hp) (repV_tup p1.fh hp r1)⟩
  · rw [if_neg z] at h1
    exact h1.elim

/-! ### calls of built-ins by values -/
def C1S (K : PySem.W.Frag) (r : List V → Hp → VK → Prop) (o : D → Option R) : Prop := UnS K (fun x H Q => r [x] H Q) o
def C2S (K : PySem.W.Frag) (r : List V → Hp → VK → Prop) (o : D → D → Option R) : Prop := OpS K (fun x y H Q => r [x, y] H Q) o
theorem ar1 {fn : Expr} {r : List V → Hp → VK → Prop} {o : D → Option R} (hp : ∀ ta, PA X [a] ta → PE X fn (tCB r ta)) (hs : C1S X.K r o) (ha : SE X W a f) (h1 : starEach (a :: []) X.env = (false, eval a X.env) :: starEach [] X.env := by rfl) : SE X W fn (eB1 o f) :=
  PE.imp (hp _ (pa_cons ha pa_nil h1)) fun σ H Q ⟨H0, F0, F, τ, S, h⟩ => by
    refine ⟨H0, F0, F, τ, S, EndE.mono (EndE.seq h) fun x H1 ⟨ra, F1, p1, r1, h1⟩ => ?_⟩
    obtain ⟨r, e, k⟩ := okR_end h1
    exact hs x F1 H1 ra.d r p1.fh r1 e Q k
theorem ar2 {fn : Expr} {r : List V → Hp → VK → Prop} {o : D → D → Option R} (hp : ∀ ta, PA X [a, b] ta → PE X fn (tCB r ta)) (hs : C2S X.K r o) (ha : SE X W a f) (hb : SE X W b g)
    (h1 : starEach (a :: [b]) X.env = (false, eval a X.env) :: starEach [b] X.env := by rfl) (h2 : starEach (b :: []) X.env = (false, eval b X.env) :: starEach [] X.env := by rfl) : SE X W fn (eB2 o f g) :=
  PE.imp (hp _ (pa_cons ha (pa_cons hb pa_nil h2) h1)) fun σ H Q ⟨H0, F0, F, τ, S, h⟩ => by
    refine ⟨H0, F0, F, τ, S, EndE.mono (EndE.seq h) fun x H1 ⟨ra, F1, p1, r1, h1⟩ => ?_⟩
    refine ⟨H0, F0, F1, τ, S.step p1, EndE.mono (EndE.seq h1) fun y H2 ⟨rb, F2, p2, r2, h2⟩ => ?_⟩
    obtain ⟨r, e, k⟩ := okR_end h2
    exact hs x y F2 H2 ra.d rb.d r p2.fh (r1.mono p2.ff) r2 e Q k

/-! ### items -/
theorem se_ix {r2 : R2} {o : D → D → Option R} (hr : IxR X r2) (hs : OpS X.K r2 o) (ha : SE X W a f) (hb : SE X W b g) (hp : PlainIx b) : SE X W (.Subscript a b pos) (eBin o f g) :=
  PE.imp (pe_ix hr ha hb hp) fun σ H Q h => two_end hs h

/-! ### lending -/
theorem lend_stt {K : PySem.W.Frag} {H0 F0 H : Hp} {σ : L2.St} : ∀ (is : List Nat) {F : Hp} {τ : List Sl}, Stt K H0 F0 F τ σ H → ∃ F1, Stt K H0 F0 F1 (lend is τ) σ H ∧ Ex F F1 ∧ ∀ a o, F1 a = some o → F a = some o ∨ (F a = none ∧ ∃ xs, o = .lst xs ∧ H a = some o)
  | [], F, τ, S => ⟨F, S, Ex.refl F, fun a o h => .inl h⟩
  | i :: is, F, τ, S => by
    show ∃ F1, Stt K H0 F0 F1 (lend is (τ.set i ((τ.getD i .un).lent))) σ H ∧ _
    cases q : τ.getD i .un with
    | un =>
      have e : τ.set i (Sl.lent .un) = τ := by
        by_cases hi : i < τ.length
        · rw [List.getD_eq_getElem?_getD, List.getElem?_eq_getElem hi] at q
          have q' : τ[i] = Sl.un := q
          show τ.set i Sl.un = τ
          rw [← q', List.set_getElem_self]
        · exact List.set_eq_of_length_le (Nat.le_of_not_lt hi)
      rw [e]
      exact lend_stt is S
    | va d =>
      have q2 := getD_some q (by intro z; cases z)
      have e : τ.set i (Sl.lent (.va d)) = τ := by
        obtain ⟨hi, e2⟩ := List.getElem?_eq_some_iff.mp q2
        show τ.set i (Sl.va d) = τ
        rw [← e2, List.set_getElem_self]
      rw [e]
      exact lend_stt is S
    | ow b ds =>
      have q2 := getD_some q (by intro z; cases z)
      obtain ⟨l, xs, hl, fl, S2⟩ := S.frz q2
      obtain ⟨F1, S3, x3, k3⟩ := lend_stt is S2
      refine ⟨F1, S3, (Ex.new fl).trans x3, fun a o h => ?_⟩
      rcases k3 a o h with h | ⟨h, ys, e1, e2⟩
      · by_cases z : a = l
        · subst z
          rw [upd_same] at h
          cases h
          exact .inr ⟨fl, xs, rfl, hl⟩
        · rw [upd_ne z] at h
          exact .inl h
      · refine .inr ⟨?_, ys, e1, e2⟩
        by_cases z : a = l
        · subst z
          exact fl
        · rw [upd_ne z] at h
          exact h
open Classical in
/-- what was lent is taken back -/
theorem unlend {K : PySem.W.Frag} {F F1 H F2 H2 : Hp} (x1 : Ex F F1) (k : ∀ a o, F1 a = some o → F a = some o ∨ (F a = none ∧ ∃ xs, o = .lst xs ∧ H a = some o)) (p : Pst F1 H F2 H2) :
    ∃ F', Pst F H F' H2 ∧ Ex F' F2 ∧ ∀ a o, F2 a = some o → (∀ xs, o ≠ .lst xs) → F' a = some o := by
  refine ⟨fun a => if F a = none ∧ F1 a ≠ none then none else F2 a, ⟨p.hh, fun a o h => ?_, fun a o h => ?_, fun a o h => ?_⟩, fun a o h => ?_, fun a o h n => ?_⟩
  · show (if F a = none ∧ F1 a ≠ none then none else F2 a) = some o
    rw [if_neg (fun z => by rw [z.1] at h; cases h)]
    exact p.ff _ _ (x1 _ _ h)
  · have h : (if F a = none ∧ F1 a ≠ none then none else F2 a) = some o := h
    by_cases z : F a = none ∧ F1 a ≠ none
    · rw [if_pos z] at h
      cases h
    · rw [if_neg z] at h
      rcases p.nw a o h with q | q
      · rcases k a o q with w | ⟨w, _⟩
        · exact .inl w
        · exact absurd ⟨w, by rw [q]; exact fun z => by cases z⟩ z
      · exact .inr q
  · have h : (if F a = none ∧ F1 a ≠ none then none else F2 a) = some o := h
    by_cases z : F a = none ∧ F1 a ≠ none
    · rw [if_pos z] at h
      cases h
    · rw [if_neg z] at h
      exact p.fh a o h
  · have h : (if F a = none ∧ F1 a ≠ none then none else F2 a) = some o := h
    by_cases z : F a = none ∧ F1 a ≠ none
    · rw [if_pos z] at h
      cases h
    · rw [if_neg z] at h
      exact h
  · show (if F a = none ∧ F1 a ≠ none then none else F2 a) = some o
    by_cases z : F a = none ∧ F1 a ≠ none
    · exfalso
      cases q : F1 a with
      | none => exact z.2 q
      | some u =>
        have e := p.ff _ _ q
        rw [h] at e
        have e' := Option.some.inj e
        subst e'
        rcases k a o q with w | ⟨_, xs, w, _⟩
        · rw [z.1] at w
          cases w
        · exact n xs w
    · rw [if_neg z]
      exact h
theorem se_lend {is : List Nat} (he : SE X W e f) : SE X W e (eLend is f) := PE.imp he fun σ H Q ⟨H0, F0, F, τ, S, h⟩ => by
  obtain ⟨F1, S1, x1, k1⟩ := lend_stt is S
  refine ⟨H0, F0, F1, lend is τ, S1, ?_⟩
  unfold eLend at h
  cases q : f (lend is τ) with
  | none => rw [q] at h; exact h
  | some r =>
    cases r with
    | ex c =>
      rw [q] at h
      intro F2 H2 p
      obtain ⟨F', p', _⟩ := unlend (K := X.K) x1 k1 p
      exact h F' H2 p'
    | ok r =>
      rw [q] at h
      intro v F2 H2 p rv
      obtain ⟨F', p', x', t'⟩ := unlend (K := X.K) x1 k1 p
      have h' : EndE X.K W F σ H Q (if r.flat then some (.ok r) else none) := h
      by_cases z : r.flat = true
      · rw [if_pos z] at h'
        refine h' v F' H2 p' ?_
        cases r with
        | v d => exact Rep.off t' z rv
        | own ds =>
          obtain ⟨l, xs, e1, n, fl, e2, rs⟩ := rv
          refine ⟨l, xs, e1, n, ?_, e2, Reps.off t' z rs⟩
          cases w : F' l with
          | none => rfl
          | some u =>
            rw [x' _ _ w] at fl
            cases fl
      · rw [if_neg z] at h'
        exact h'.elim
theorem st_lend {is : List Nat} (he : ST X W e f) : ST X W e (eLend is f) := PT.imp he fun σ H Q ⟨H0, F0, F, τ, S, h⟩ => by
  obtain ⟨F1, S1, x1, k1⟩ := lend_stt is S
  refine ⟨H0, F0, F1, lend is τ, S1, ?_⟩
  unfold eLend at h
  cases q : f (lend is τ) with
  | none => rw [q] at h; exact h
  | some r =>
    cases r with
    | ex c =>
      rw [q] at h
      intro F2 H2 p
      obtain ⟨F', p', _⟩ := unlend (K := X.K) x1 k1 p
      exact h F' H2 p'
    | ok r =>
      rw [q] at h
      show (match asB r with
        | some b => ∀ F' H', Pst F1 H F' H' → Q b H'
        | none => False)
      have h' : EndT X.K W F σ H Q (if r.flat then some (.ok r) else none) := h
      by_cases z : r.flat = true
      · rw [if_pos z] at h'
        have h2 : (match asB r with
          | some b => ∀ F' H', Pst F H F' H' → Q b H'
          | none => False) := h'
        cases w : asB r with
        | none => rw [w] at h2; exact h2.elim
        | some b =>
          rw [w] at h2
          intro F2 H2 p
          obtain ⟨F', p', _⟩ := unlend (K := X.K) x1 k1 p
          exact h2 F' H2 p'
      · rw [if_neg z] at h'
        exact h'.elim
end
end Pw
set_option Elab.async false
set_option linter.all false
set_option maxRecDepth 100000
set_option maxHeartbeats 2000000
/-! I4: operators, built-ins, items by values. -/
namespace Pw
open PySem PySem.Spec PyProof.Rows L2 Pv

section
variable {K : PySem.W.Frag} {X : Cx}
/-! ### arithmetic -/
def rAddV : R2 := fun x y H Q => rI0 (fun i j => .int (i + j)) x y H Q ∨ (∃ i j, x = .str i ∧ y = .str j ∧ i.length + j.length ≤ sizeLine ∧ Q (.str (i ++ j)) H) ∨ rCat x y H Q
theorem op_addV : OpR X (binaryOp .Add) rAddV := OpR.or op_add (OpR.or op_add_str op_cat)
theorem os_add : OpS K rAddV oAdd := fun x y F H a b r e ra rb eo Q k => by
  cases ra with
  | int i =>
    cases rb with
    | int j =>
      cases eo
      exact .inl ⟨i, j, rfl, rfl, k _ F H (Pst.refl e) (.int _)⟩
    | _ => cases eo
  | str s =>
    cases rb with
    | str t =>
      have eo' : (if s.length + t.length ≤ Pv.line then some (R.v (.str (s ++ t))) else none) = some r := eo
      by_cases z : s.length + t.length ≤ Pv.line
      · rw [if_pos z] at eo'
        cases eo'
        exact .inr (.inl ⟨s, t, rfl, rfl, by rw [← line_eq]; exact z, k _ F H (Pst.refl e) (.str _)⟩)
      · rw [if_neg z] at eo'
        cases eo'
    | _ => cases eo
  | @lst p xs ds h1 h2 =>
    cases rb with
    | @lst q ys es h3 h4 =>
      have eo' : (if ds.length ≤ Pv.line ∧ es.length ≤ Pv.line ∧ ds.length + es.length ≤ Pv.line then some (R.own (ds ++ es)) else none) = some r := eo
      by_cases z : ds.length ≤ Pv.line ∧ es.length ≤ Pv.line ∧ ds.length + es.length ≤ Pv.line
      · rw [if_pos z] at eo'
        cases eo'
        refine .inr (.inr ⟨p, q, xs, ys, rfl, rfl, e _ _ h1, e _ _ h3, by rw [h2.length, h4.length, ← line_eq]; exact z.2.2, fun l hl => k _ F _ (Pst.newH e hl) (repR_new e hl (h2.append h4))⟩)
      · rw [if_neg z] at eo'
        cases eo'
    | _ => cases eo
  | _ => cases eo
theorem os_sub : OpS K (rI0 fun i j => .int (i - j)) oSub := fun x y F H a b r e ra rb eo Q k => by
  cases ra with
  | int i =>
    cases rb with
    | int j => cases eo; exact ⟨i, j, rfl, rfl, k _ F H (Pst.refl e) (.int _)⟩
    | _ => cases eo
  | _ => cases eo
theorem os_mul : OpS K (rI CMulW fun i j => .int (i * j)) oMul := fun x y F H a b r e ra rb eo Q k => by
  cases ra with
  | int i =>
    cases rb with
    | int j =>
      have eo' : (if mulOk i j = true then some (R.v (.int (i * j))) else none) = some r := eo
      by_cases z : mulOk i j = true
      · rw [if_pos z] at eo'
        cases eo'
        exact ⟨i, j, rfl, rfl, show CMulW i j from of_decide_eq_true (p := i.natAbs.log2 + j.natAbs.log2 < 1000000) z, k _ F H (Pst.refl e) (.int _)⟩
      · rw [if_neg z] at eo'
        cases eo'
    | _ => cases eo
  | _ => cases eo
def rDivV : R2 := fun x y H Q => rI CDivW (fun i j => .int (i / j)) x y H Q ∨ rI CDivN (fun i j => .int (i.fdiv j)) x y H Q
theorem op_divV : OpR X (binaryOp .FloorDiv) rDivV := OpR.or op_fdivW op_fdivN
theorem os_div : OpS K rDivV oDiv := fun x y F H a b r e ra rb eo Q k => by
  cases ra with
  | int i =>
    cases rb with
    | int j =>
      have eo' : (if divOk j = true then some (R.v (.int (i.fdiv j))) else none) = some r := eo
      by_cases z : divOk j = true
      · rw [if_pos z] at eo'
        cases eo'
        have q := k (.int (i.fdiv j)) F H (Pst.refl e) (.int _)
        rcases Bool.or_eq_true_iff.mp z with w | w
        · obtain ⟨w1, w2⟩ := Bool.and_eq_true_iff.mp w
          have p1 := of_decide_eq_true w1
          refine .inl ⟨i, j, rfl, rfl, ⟨p1, of_decide_eq_true w2⟩, ?_⟩
          rw [Int.fdiv_eq_ediv_of_nonneg i (Int.le_of_lt p1)] at q
          exact q
        · obtain ⟨w1, w2⟩ := Bool.and_eq_true_iff.mp w
          exact .inr ⟨i, j, rfl, rfl, ⟨of_decide_eq_true w1, of_decide_eq_true w2⟩, q⟩
      · rw [if_neg z] at eo'
        cases eo'
    | _ => cases eo
  | _ => cases eo
theorem os_mod : OpS K (rI (fun _ j => j ≠ 0) fun i j => .int (i.fmod j)) oMod := fun x y F H a b r e ra rb eo Q k => by
  cases ra with
  | int i =>
    cases rb with
    | int j =>
      have eo' : (if j ≠ 0 then some (R.v (.int (i.fmod j))) else none) = some r := eo
      by_cases z : j ≠ 0
      · rw [if_pos z] at eo'
        cases eo'
        exact ⟨i, j, rfl, rfl, z, k _ F H (Pst.refl e) (.int _)⟩
      · rw [if_neg z] at eo'
        cases eo'
    | _ => cases eo
  | _ => cases eo
theorem os_pow : OpS K (rI CPow fun i j => .int (i ^ j.toNat)) oPow := fun x y F H a b r e ra rb eo Q k => by
  cases ra with
  | int i =>
    cases rb with
    | int j =>
      have eo' : (if 0 ≤ j ∧ j ≤ 1000000 ∧ i.natAbs < 2 ^ 64 then some (R.v (.int (i ^ j.toNat))) else none) = some r := eo
      by_cases z : 0 ≤ j ∧ j ≤ 1000000 ∧ i.natAbs < 2 ^ 64
      · rw [if_pos z] at eo'
        cases eo'
        exact ⟨i, j, rfl, rfl, z, k _ F H (Pst.refl e) (.int _)⟩
      · rw [if_neg z] at eo'
        cases eo'
    | _ => cases eo
  | _ => cases eo
theorem us_neg : UnS K (rU fun i => .int (-i)) uNeg := fun x F H a r e ra eo Q k => by
  cases ra with
  | int i => cases eo; exact ⟨i, rfl, k _ F H (Pst.refl e) (.int _)⟩
  | _ => cases eo

/-! ### order, is -/
theorem os_lt : OpS K (rI0 fun i j => .bl (decide (i < j))) oLt := fun x y F H a b r e ra rb eo Q k => by
  cases ra with
  | int i =>
    cases rb with
    | int j => cases eo; exact ⟨i, j, rfl, rfl, k _ F H (Pst.refl e) (.bl _)⟩
    | _ => cases eo
  | _ => cases eo
theorem os_le : OpS K (rI0 fun i j => .bl (decide (i ≤ j))) oLe := fun x y F H a b r e ra rb eo Q k => by
  cases ra with
  | int i =>
    cases rb with
    | int j => cases eo; exact ⟨i, j, rfl, rfl, k _ F H (Pst.refl e) (.bl _)⟩
    | _ => cases eo
  | _ => cases eo
theorem os_gt : OpS K (rI0 fun i j => .bl (decide (j < i))) oGt := fun x y F H a b r e ra rb eo Q k => by
  cases ra with
  | int i =>
    cases rb with
    | int j => cases eo; exact ⟨i, j, rfl, rfl, k _ F H (Pst.refl e) (.bl _)⟩
    | _ => cases eo
  | _ => cases eo
theorem os_ge : OpS K (rI0 fun i j => .bl (decide (j ≤ i))) oGe := fun x y F H a b r e ra rb eo Q k => by
  cases ra with
  | int i =>
    cases rb with
    | int j => cases eo; exact ⟨i, j, rfl, rfl, k _ F H (Pst.refl e) (.bl _)⟩
    | _ => cases eo
  | _ => cases eo
def isN : D → Bool
  | .non => true
  | _ => false
theorem rep_isN {F : Hp} {x : V} {a : D} (r : Rep K F x a) : decide (x = .non) = isN a := by
  cases r <;> rfl
theorem os_isN : OpS K (fun x y H Q => y = .non ∧ Q (.bl (decide (x = .non))) H) oIsN := fun x y F H a b r e ra rb eo Q k => by
  cases rb with
  | non =>
    have eo' : some (R.v (.bl (isN a))) = some r := eo
    cases eo'
    refine ⟨rfl, ?_⟩
    rw [rep_isN ra]
    exact k _ F H (Pst.refl e) (.bl _)
  | _ => cases eo
theorem os_notN : OpS K (fun x y H Q => y = .non ∧ Q (.bl (!decide (x = .non))) H) oNotN := fun x y F H a b r e ra rb eo Q k => by
  cases rb with
  | non =>
    have eo' : some (R.v (.bl (!isN a))) = some r := eo
    cases eo'
    refine ⟨rfl, ?_⟩
    rw [rep_isN ra]
    exact k _ F H (Pst.refl e) (.bl _)
  | _ => cases eo
theorem os_isB : OpS K rIsB oIsB := fun x y F H a b r e ra rb eo Q k => by
  cases ra with
  | bl i =>
    cases rb with
    | bl j => cases eo; exact ⟨i, j, rfl, rfl, k _ F H (Pst.refl e) (.bl _)⟩
    | _ => cases eo
  | _ => cases eo

/-! ### == -/
mutual
def py : D → PyData
  | .non => .none
  | .bl b => .bool b
  | .int i => .int i
  | .str x => .str x
  | .lst xs => .list (pys xs)
  | .tup xs => .tuple (pys xs)
  | .scr _ => .dict []
  | .adr _ => .dict []
def pys : List D → List PyData
  | [] => []
  | x :: xs => py x :: pys xs
end
mutual
theorem py_eqv : ∀ (x y : D), PyData.eqv (py x) (py y) = x.eqv y
  | .non, y => by cases y <;> rfl
  | .bl a, y => by cases y <;> rfl
  | .int a, y => by cases y <;> rfl
  | .str a, y => by cases y <;> rfl
  | .scr a, y => by cases y <;> rfl
  | .adr a, y => by cases y <;> rfl
  | .lst xs, y => by
    cases y with
    | lst ys => exact py_eqvs xs ys
    | _ => rfl
  | .tup xs, y => by
    cases y with
    | tup ys => exact py_eqvs xs ys
    | _ => rfl
theorem py_eqvs : ∀ (xs ys : List D), PyData.eqvAll (pys xs) (pys ys) = D.eqvs xs ys
  | [], [] => rfl
  | [], _ :: _ => rfl
  | _ :: _, [] => rfl
  | x :: xs, y :: ys => by
    show (PyData.eqv (py x) (py y) && PyData.eqvAll (pys xs) (pys ys)) = (x.eqv y && D.eqvs xs ys)
    rw [py_eqv x y, py_eqvs xs ys]
end
theorem strOk_of {x : Str} (h : (x.cps.toList.all fun c => decide (c < 128)) = true) : PyData.canLay0 (.str x) = true := by
  have h1 := List.all_eq_true.mp h
  show (x.cps.all (· < 0x110000)) = true
  rw [← Array.all_toList]
  refine List.all_eq_true.mpr fun c hc => ?_
  have := of_decide_eq_true (h1 c hc)
  exact decide_eq_true (by omega)
mutual
theorem fit_lay : ∀ (n : Nat) (x : D), x.fit n = true → PyData.canLay0 (py x) = true ∧ PyData.depth (py x) ≤ n
  | n, .non, _ => ⟨rfl, Nat.zero_le _⟩
  | n, .bl a, _ => ⟨rfl, Nat.zero_le _⟩
  | n, .int a, _ => ⟨rfl, Nat.zero_le _⟩
  | n, .str a, h => ⟨strOk_of (by cases n <;> exact h), Nat.zero_le _⟩
  | n, .scr a, h => by cases n <;> cases h
  | n, .adr a, h => by cases n <;> cases h
  | 0, .lst xs, h => by cases h
  | n + 1, .lst xs, h => by
    obtain ⟨h1, h2⟩ := fits_lay n xs h
    refine ⟨h1, ?_⟩
    show PyData.depthAll (pys xs) + 1 ≤ n + 1
    omega
  | 0, .tup xs, h => by cases h
  | n + 1, .tup xs, h => by
    obtain ⟨h1, h2⟩ := fits_lay n xs h
    refine ⟨h1, ?_⟩
    show PyData.depthAll (pys xs) + 1 ≤ n + 1
    omega
theorem fits_lay : ∀ (n : Nat) (xs : List D), D.fits n xs = true → PyData.canLayAll0 (pys xs) = true ∧ PyData.depthAll (pys xs) ≤ n
  | n, [], _ => ⟨rfl, Nat.zero_le _⟩
  | n, x :: xs, h => by
    have h' : (D.fit n x && D.fits n xs) = true := by cases n <;> exact h
    obtain ⟨a, b⟩ := Bool.and_eq_true_iff.mp h'
    obtain ⟨h1, h2⟩ := fit_lay n x a
    obtain ⟨h3, h4⟩ := fits_lay n xs b
    refine ⟨?_, ?_⟩
    · show (PyData.canLay0 (py x) && PyData.canLayAll0 (pys xs)) = true
      rw [h1, h3]
      rfl
    · show max (PyData.depth (py x)) (PyData.depthAll (pys xs)) ≤ n
      omega
end
theorem fit_shaped {x : D} (h : x.fit 60 = true) : SeqAt.shaped (py x) = true := by
  obtain ⟨h1, h2⟩ := fit_lay 60 x h
  show (PyData.canLay0 (py x) && decide (PyData.depth (py x) ≤ 64)) = true
  rw [h1, decide_eq_true (by omega : PyData.depth (py x) ≤ 64)]
  rfl
mutual
theorem rep_dp {F H : Hp} (e : Ex F H) (n : Nat) : ∀ {d : D} {v : V}, d.fit n = true → Rep K F v d → Dp K H v (py d)
  | .non, _, _, h => by cases h; exact .non
  | .bl _, _, _, h => by cases h; exact .bl _
  | .int _, _, _, h => by cases h; exact .int _
  | .str _, _, _, h => by cases h; exact .str _
  | .scr _, _, z, _ => by cases n <;> cases z
  | .adr _, _, z, _ => by cases n <;> cases z
  | .lst ds, _, z, h => by
    cases h with
    | lst h1 h2 =>
      cases n with
      | zero => cases z
      | succ n => exact .lst (SqL.of (e _ _ h1)) (reps_dp e n z h2)
  | .tup ds, _, z, h => by
    cases h with
    | tup h1 h2 =>
      cases n with
      | zero => cases z
      | succ n => exact .tup (e.st h1) (reps_dp e n z h2)
theorem reps_dp {F H : Hp} (e : Ex F H) (n : Nat) : ∀ {ds : List D} {vs : List V}, D.fits n ds = true → Reps K F vs ds → DpAll K H vs (pys ds)
  | [], _, _, h => by cases h; exact .nil
  | d :: ds, _, z, h => by
    have z' : (D.fit n d && D.fits n ds) = true := by cases n <;> exact z
    obtain ⟨a, b⟩ := Bool.and_eq_true_iff.mp z'
    cases h with
    | cons h1 h2 => exact .cons (rep_dp e n a h1) (reps_dp e n b h2)
end
theorem os_eq : OpS K (rEqD K) oEq := fun x y F H a b r e ra rb eo Q k => by
  have eo' : (if (a.fit 60 && b.fit 60) = true then some (R.v (.bl (a.eqv b))) else none) = some r := eo
  by_cases z : (a.fit 60 && b.fit 60) = true
  · rw [if_pos z] at eo'
    cases eo'
    obtain ⟨z1, z2⟩ := Bool.and_eq_true_iff.mp z
    refine ⟨(py a), (py b), rep_dp e 60 z1 ra, rep_dp e 60 z2 rb, fit_shaped z1, fit_shaped z2, ?_⟩
    rw [py_eqv]
    exact k _ F H (Pst.refl e) (.bl _)
  · rw [if_neg z] at eo'
    cases eo'
theorem os_ne : OpS K (rNeD K) oNe := fun x y F H a b r e ra rb eo Q k => by
  have eo' : (if (a.fit 60 && b.fit 60) = true then some (R.v (.bl (!a.eqv b))) else none) = some r := eo
  by_cases z : (a.fit 60 && b.fit 60) = true
  · rw [if_pos z] at eo'
    cases eo'
    obtain ⟨z1, z2⟩ := Bool.and_eq_true_iff.mp z
    refine ⟨(py a), (py b), rep_dp e 60 z1 ra, rep_dp e 60 z2 rb, fit_shaped z1, fit_shaped z2, ?_⟩
    rw [py_eqv]
    exact k _ F H (Pst.refl e) (.bl _)
  · rw [if_neg z] at eo'
    cases eo'

/-! ### in -/
def rInS : R2 := fun u v H Q => ∃ (k : Nat) (t : Str), u = .str ⟨#[k]⟩ ∧ v = .str t ∧ Q (.bl (decide (k ∈ t.cps.toList))) H
def rNotInS : R2 := fun u v H Q => ∃ (k : Nat) (t : Str), u = .str ⟨#[k]⟩ ∧ v = .str t ∧ Q (.bl (!decide (k ∈ t.cps.toList))) H
theorem str_one {c : Str} (h : c.length = 1) : c = ⟨#[c.cps.toList.headD 0]⟩ := by
  obtain ⟨⟨l⟩⟩ := c
  match l, h with
  | [x], _ => rfl
theorem os_inS : OpS K rInS oInS := fun x y F H a b r e ra rb eo Q k => by
  cases ra with
  | str c =>
    cases rb with
    | str z =>
      have eo' : (if c.length = 1 then some (R.v (.bl (decide (c.cps.toList.headD 0 ∈ z.cps.toList)))) else none) = some r := eo
      by_cases w : c.length = 1
      · rw [if_pos w] at eo'
        cases eo'
        exact ⟨c.cps.toList.headD 0, z, congrArg V.str (str_one w), rfl, k _ F H (Pst.refl e) (.bl _)⟩
      · rw [if_neg w] at eo'
        cases eo'
    | _ => cases eo
  | _ => cases eo
theorem os_notInS : OpS K rNotInS oNotInS := fun x y F H a b r e ra rb eo Q k => by
  cases ra with
  | str c =>
    cases rb with
    | str z =>
      have eo' : (if c.length = 1 then some (R.v (.bl (!decide (c.cps.toList.headD 0 ∈ z.cps.toList)))) else none) = some r := eo
      by_cases w : c.length = 1
      · rw [if_pos w] at eo'
        cases eo'
        exact ⟨c.cps.toList.headD 0, z, congrArg V.str (str_one w), rfl, k _ F H (Pst.refl e) (.bl _)⟩
      · rw [if_neg w] at eo'
        cases eo'
    | _ => cases eo
  | _ => cases eo
theorem any_py (x : D) : ∀ ys : List D, ((pys ys).any fun z => PyData.eqv z (py x)) = inD x ys
  | [] => rfl
  | y :: ys => by
    show (PyData.eqv (py y) (py x) || (pys ys).any fun z => PyData.eqv z (py x)) = (y.eqv x || inD x ys)
    rw [py_eqv, any_py x ys]
theorem os_inL : OpS K (rInD K) oInL := fun x y F H a b r e ra rb eo Q k => by
  cases rb with
  | @lst p xs ys h1 h2 =>
    have eo' : (if (a.fit 60 && D.fits 59 ys) = true then some (R.v (.bl (inD a ys))) else none) = some r := by cases a <;> exact eo
    by_cases w : (a.fit 60 && D.fits 59 ys) = true
    · rw [if_pos w] at eo'
      cases eo'
      obtain ⟨z1, z2⟩ := Bool.and_eq_true_iff.mp w
      have z3 : D.fit 60 (.lst ys) = true := z2
      refine ⟨(py a), pys ys, rep_dp e 60 z1 ra, rep_dp e 60 z3 (.lst h1 h2), fit_shaped z1, fit_shaped z3, ?_⟩
      rw [any_py]
      exact k _ F H (Pst.refl e) (.bl _)
    · rw [if_neg w] at eo'
      cases eo'
  | _ => cases a <;> cases eo
theorem os_notInL : OpS K (rNotInD K) oNotInL := fun x y F H a b r e ra rb eo Q k => by
  cases rb with
  | @lst p xs ys h1 h2 =>
    have eo' : (if (a.fit 60 && D.fits 59 ys) = true then some (R.v (.bl (!inD a ys))) else none) = some r := by cases a <;> exact eo
    by_cases w : (a.fit 60 && D.fits 59 ys) = true
    · rw [if_pos w] at eo'
      cases eo'
      obtain ⟨z1, z2⟩ := Bool.and_eq_true_iff.mp w
      have z3 : D.fit 60 (.lst ys) = true := z2
      refine ⟨(py a), pys ys, rep_dp e 60 z1 ra, rep_dp e 60 z3 (.lst h1 h2), fit_shaped z1, fit_shaped z3, ?_⟩
      rw [any_py]
      exact k _ F H (Pst.refl e) (.bl _)
    · rw [if_neg w] at eo'
      cases eo'
  | _ => cases a <;> cases eo

/-! ### items -/
theorem ixN_atI (n : Nat) (i : Int) : ixN n i = Pv.atI n i := rfl
theorem os_ix : OpS K (rIx K) oIx := fun x y F H a b r e ra rb eo Q k => by
  cases rb with
  | int i =>
    cases ra with
    | @scr p ns h1 =>
      have eo' : ((Pv.atI ns.length i).bind fun j => (ns[j]?).map fun n => R.v (.int n)) = some r := eo
      obtain ⟨j, e1, e2⟩ := Option.bind_eq_some_iff.mp eo'
      obtain ⟨d, e3, e4⟩ := Option.map_eq_some_iff.mp e2
      subst e4
      refine .inl ⟨p, ns.map V.int, i, .int d, rfl, rfl, e.sl h1, ?_, k _ F H (Pst.refl e) (.int _)⟩
      unfold L2.atI
      rw [List.length_map, ixN_atI, e1]
      show (ns.map V.int)[j]? = some (.int d)
      rw [List.getElem?_map, e3]
      rfl
    | @lst p xs ds h1 h2 =>
      have eo' : ((Pv.atI ds.length i).bind fun j => (ds[j]?).map .v) = some r := eo
      obtain ⟨j, e1, e2⟩ := Option.bind_eq_some_iff.mp eo'
      obtain ⟨d, e3, e4⟩ := Option.map_eq_some_iff.mp e2
      subst e4
      obtain ⟨v, e5, rv⟩ := h2.get e3
      refine .inl ⟨p, xs, i, v, rfl, rfl, SqL.of (e _ _ h1), ?_, k _ F H (Pst.refl e) rv⟩
      unfold L2.atI
      rw [h2.length, ixN_atI, e1]
      exact e5
    | @tup p xs ds h1 h2 =>
      have eo' : ((Pv.atI ds.length i).bind fun j => (ds[j]?).map .v) = some r := eo
      obtain ⟨j, e1, e2⟩ := Option.bind_eq_some_iff.mp eo'
      obtain ⟨d, e3, e4⟩ := Option.map_eq_some_iff.mp e2
      subst e4
      obtain ⟨v, e5, rv⟩ := h2.get e3
      refine .inr (.inl ⟨p, xs, i, v, rfl, rfl, e.st h1, ?_, k _ F H (Pst.refl e) rv⟩)
      unfold L2.atI
      rw [h2.length, ixN_atI, e1]
      exact e5
    | str s =>
      have eo' : (if s.length ≤ Pv.line then (Pv.atI s.length i).bind fun j => (s.cps[j]?).map fun c => R.v (.str ⟨#[c]⟩) else none) = some r := eo
      by_cases w : s.length ≤ Pv.line
      · rw [if_pos w] at eo'
        obtain ⟨j, e1, e2⟩ := Option.bind_eq_some_iff.mp eo'
        obtain ⟨d, e3, e4⟩ := Option.map_eq_some_iff.mp e2
        subst e4
        refine .inr (.inr ⟨s, i, d, rfl, rfl, by rw [← line_eq]; exact w, ?_, k _ F H (Pst.refl e) (.str _)⟩)
        unfold L2.atI
        have hl : s.cps.toList.length = s.length := rfl
        rw [hl, ixN_atI, e1]
        show s.cps.toList[j]? = some d
        rw [Array.getElem?_toList]
        exact e3
      · rw [if_neg w] at eo'
        cases eo'
    | _ => cases eo
  | _ => cases ra <;> cases eo

/-! ### len, int, abs, str, list, gcd, lcm -/
theorem cs_len : C1S K (fun xs H Q => ∃ x n, xs = [x] ∧ LenV K x H n ∧ Q (.int n) H) bLen := fun x F H a r e ra eo Q k => by
  cases ra with
  | @scr p ns h1 =>
    cases eo
    refine ⟨_, ns.length, rfl, .inl ⟨_, e.sl h1, ?_⟩, k _ F H (Pst.refl e) (.int _)⟩
    rw [List.length_map]
  | @lst p xs ds h1 h2 =>
    cases eo
    exact ⟨_, ds.length, rfl, .inl ⟨xs, SqL.of (e _ _ h1), h2.length.symm⟩, k _ F H (Pst.refl e) (.int _)⟩
  | @tup p xs ds h1 h2 =>
    cases eo
    exact ⟨_, ds.length, rfl, .inr ⟨xs, e.st h1, h2.length.symm⟩, k _ F H (Pst.refl e) (.int _)⟩
  | str s =>
    have eo' : (if s.length ≤ Pv.line then some (R.v (.int s.length)) else none) = some r := eo
    by_cases w : s.length ≤ Pv.line
    · rw [if_pos w] at eo'
      cases eo'
      exact ⟨_, s.length, rfl, ⟨by rw [← line_eq]; exact w, rfl⟩, k _ F H (Pst.refl e) (.int _)⟩
    · rw [if_neg w] at eo'
      cases eo'
  | _ => cases eo
theorem cs_int : C1S K (fun xs H Q => (∃ i, xs = [.int i] ∧ Q (.int i) H) ∨ ∃ k, xs = [.bl k] ∧ Q (.int (if k then 1 else 0)) H) bInt := fun x F H a r e ra eo Q k => by
  cases ra with
  | int i => cases eo; exact .inl ⟨i, rfl, k _ F H (Pst.refl e) (.int _)⟩
  | bl i => cases eo; exact .inr ⟨i, rfl, k _ F H (Pst.refl e) (.int _)⟩
  | _ => cases eo
theorem cs_abs : C1S K (fun xs H Q => ∃ i, xs = [.int i] ∧ Q (.int (if i < 0 then -i else i)) H) bAbs := fun x F H a r e ra eo Q k => by
  cases ra with
  | int i => cases eo; exact ⟨i, rfl, k _ F H (Pst.refl e) (.int _)⟩
  | _ => cases eo
theorem cs_str : C1S K (fun xs H Q => ∃ i : Int, xs = [.int i] ∧ i.natAbs.log2 < 1920 ∧ Q (.str (toString i)) H) bStr := fun x F H a r e ra eo Q k => by
  cases ra with
  | int i =>
    have eo' : (if i.natAbs.log2 < 1920 then some (R.v (.str (toString i : String))) else none) = some r := eo
    by_cases w : i.natAbs.log2 < 1920
    · rw [if_pos w] at eo'
      cases eo'
      exact ⟨i, rfl, w, k _ F H (Pst.refl e) (.str _)⟩
    · rw [if_neg w] at eo'
      cases eo'
  | _ => cases eo
theorem cs_list : C1S K (fun xs H Q => ∃ p ys, xs = [.ref p] ∧ (SqL K H p ys ∨ SqT K H p ys) ∧ ∀ l, H l = none → Q (.ref l) (upd H l (.lst ys))) bList := fun x F H a r e ra eo Q k => by
  cases ra with
  | @lst p xs ds h1 h2 =>
    cases eo
    exact ⟨p, xs, rfl, .inl (SqL.of (e _ _ h1)), fun l hl => k _ F _ (Pst.newH e hl) (repR_new e hl h2)⟩
  | @tup p xs ds h1 h2 =>
    cases eo
    exact ⟨p, xs, rfl, .inr (e.st h1), fun l hl => k _ F _ (Pst.newH e hl) (repR_new e hl h2)⟩
  | _ => cases eo
theorem cs_gcd : C2S K rGcd oGcd := fun x y F H a b r e ra rb eo Q k => by
  cases ra with
  | int i =>
    cases rb with
    | int j => cases eo; exact ⟨i, j, rfl, k _ F H (Pst.refl e) (.int _)⟩
    | _ => cases eo
  | _ => cases eo
end
/-! ### math.lcm -/
def lcmOk (i j : Int) : Bool := decide (i.natAbs.log2 < 13000) && decide (j.natAbs.log2 < 13000)
def rLcm : List V → Hp → VK → Prop := fun vs H Q => ∃ a b : Int, vs = [.int a, .int b] ∧ lcmOk a b = true ∧ Q (.int ((Nat.lcm a.natAbs b.natAbs : Nat) : Int)) H
theorem log2_max {a b n : Nat} (ha : a.log2 < n) (hb : b.log2 < n) : (max a b).log2 < n := by
  rcases Nat.le_total a b with h | h
  · rw [Nat.max_eq_right h]; exact hb
  · rw [Nat.max_eq_left h]; exact ha
theorem log2_lt_pow {a n : Nat} (h : a.log2 < n) : a < 2 ^ n := by
  by_cases z : a = 0
  · rw [z]; exact Nat.two_pow_pos n
  · exact (Nat.log2_lt z).mp h
theorem log2_of_lt {a n : Nat} (h : a < 2 ^ n) (h0 : 0 < n) : a.log2 < n := by
  by_cases z : a = 0
  · rw [z, Nat.log2_zero]; exact h0
  · exact (Nat.log2_lt z).mpr h
theorem cr_lcm {X : Cx} : CallR X (.builtin "math.lcm") rLcm := by
  intro pins s σ H vs us Q I r h
  obtain ⟨a, b, rfl, hok, q⟩ := h
  obtain ⟨t, u, rfl⟩ := Vals.int2 r
  obtain ⟨h1, h2⟩ := Bool.and_eq_true_iff.mp hok
  have h1 := of_decide_eq_true h1
  have h2 := of_decide_eq_true h2
  have e1 : Nat.lcm 1 a.natAbs = a.natAbs := PySem.W.mc_lcm_one _
  have hl : ((((Nat.lcm 1 a.natAbs).lcm b.natAbs : Nat) : Int)).natAbs.log2 < bitsLine := by
    rw [e1, Int.natAbs_natCast]
    have p1 := log2_lt_pow h1
    have p2 := log2_lt_pow h2
    have p3 : a.natAbs.lcm b.natAbs < 2 ^ 26000 := by
      refine Nat.lt_of_le_of_lt (PySem.W.mc_lcm_le _ _) ?_
      rw [show (26000 : Nat) = 13000 + 13000 from rfl, Nat.pow_add]
      exact Nat.mul_lt_mul'' p1 p2
    have p4 := log2_of_lt p3 (by decide)
    have e : bitsLine = 134217728 := by decide
    omega
  have o1 : (max 1 a.natAbs).log2 < 13000 := log2_max (by decide) h1
  have o2 : (max a.natAbs b.natAbs).log2 < 13000 := log2_max h1 h2
  refine PySem.call_function_meets PySem.W.MGF.kind_lcm PySem.W.MGF.plain_lcm PySem.W.MGF.entry_lcm (PySem.W.MGF.args_lcm _ _) (PySem.W.mg_run_lcm a t b u (by omega) (by omega) hl).meets ?_
  refine ⟨.int _, H, I.tok _, ⟨_, rfl⟩, ?_⟩
  rw [e1]
  exact q
end Pw
set_option Elab.async false
set_option linter.all false
set_option maxRecDepth 100000
set_option maxHeartbeats 2000000
/-! I5: isinstance, calls of defs, statements, loops, comprehensions, defs. -/
namespace Pw
open PySem PySem.Spec PyProof.Rows L2 Pv

/-! ### isinstance of built-in classes -/
def tyN : Ty → String
  | .int => "int"
  | .bool => "bool"
  | .str => "str"
  | .tuple => "tuple"
  | .list => "list"
theorem kb_non (t : Ty) : kitB "NoneType" (tyN t) = some (isT t .non) := by cases t <;> decide +kernel
theorem kb_bl (t : Ty) (b : Bool) : kitB "bool" (tyN t) = some (isT t (.bl b)) := (show kitB "bool" (tyN t) = some (isT t (.bl true)) by cases t <;> decide +kernel).trans (by cases t <;> rfl)
theorem kb_int (t : Ty) (b : Int) : kitB "int" (tyN t) = some (isT t (.int b)) := (show kitB "int" (tyN t) = some (isT t (.int 0)) by cases t <;> decide +kernel).trans (by cases t <;> rfl)
theorem kb_str (t : Ty) (b : Str) : kitB "str" (tyN t) = some (isT t (.str b)) := (show kitB "str" (tyN t) = some (isT t (.str Str.empty)) by cases t <;> decide +kernel).trans (by cases t <;> rfl)
theorem kb_lst (t : Ty) (b : List D) : kitB "list" (tyN t) = some (isT t (.lst b)) := (show kitB "list" (tyN t) = some (isT t (.lst [])) by cases t <;> decide +kernel).trans (by cases t <;> rfl)
theorem kb_tup (t : Ty) (b : List D) : kitB "tuple" (tyN t) = some (isT t (.tup b)) := (show kitB "tuple" (tyN t) = some (isT t (.tup [])) by cases t <;> decide +kernel).trans (by cases t <;> rfl)
section
variable {K : PySem.W.Frag}
theorem cs_is (t : Ty) : UnS K (fun x H Q => rIsi K [x, .ty (tyN t)] H Q) (bIs t) := fun x F H a r e ra eo Q k => by
  have go : ∀ (n : String) (b : Bool), TyX K H x (.type n) → kitB n (tyN t) = some b → Q (.bl b) H → rIsi K [x, .ty (tyN t)] H Q := fun n b ty kb q =>
    ⟨x, .ty (tyN t), .type n, .type (tyN t), b, rfl, .ty _, ty, kit_ty kb, q⟩
  have q : ∀ b, R.v (.bl b) = r → Q (.bl b) H := fun b eb => k (.bl b) F H (Pst.refl e) (by rw [← eb]; exact .bl b)
  cases ra with
  | non => exact go "NoneType" (isT t .non) (.base .non) (kb_non t) (q _ (Option.some.inj eo))
  | bl i => exact go "bool" (isT t (.bl i)) (.base (.bl i)) (kb_bl t i) (q _ (Option.some.inj eo))
  | int i => exact go "int" (isT t (.int i)) (.base (.int i)) (kb_int t i) (q _ (Option.some.inj eo))
  | str i => exact go "str" (isT t (.str i)) (.base (.str i)) (kb_str t i) (q _ (Option.some.inj eo))
  | @lst p xs ds h1 h2 => exact go "list" (isT t (.lst ds)) (.base (.lst (e _ _ h1))) (kb_lst t ds) (q _ (Option.some.inj eo))
  | @tup p xs ds h1 h2 =>
    have kb : kitB "tuple" (tyN t) = some (isT t (.tup ds)) := kb_tup t ds
    have q' := q _ (Option.some.inj eo)
    rcases e.st h1 with h | ⟨o, its, n, hk, hc, _⟩
    · rcases h with h | ⟨o, h⟩
      · exact go "tuple" _ (.base (.tup h)) kb q'
      · exact go "tuple" _ (.fTuple h) kb q'
    · exact go "tuple" _ (.kTuple hk hc) kb q'
  | scr h => cases eo
  | adr h => cases eo
end
section
variable {X : Cx} {W : WX} {e a b c : Expr} {f g h : ExF} {pos : Pos} {es : List Expr} {fs : List ExF}
theorem se_is {t : Ty} {p : Pos} (hg : Gl X "isinstance") (hm : X.mg "isinstance" = none) (ha : SE X W a f) (hc : PE X c (tC (.ty (tyN t))))
    (h1 : starEach (a :: [c]) X.env = (false, eval a X.env) :: starEach [c] X.env := by rfl) (h2 : starEach (c :: []) X.env = (false, eval c X.env) :: starEach [] X.env := by rfl)
    (hpl : (backTo pos (starEach [c] X.env)).any (·.1) = false := by rfl) : SE X W (.Call (.Name "isinstance" p) [a, c] [] pos) (eB1 (bIs t) f) :=
  PE.imp (pe_callB call_isi hg hm (by decide +kernel) (pa_cons ha (pa_cons hc pa_nil h2) h1) (he := h1) (hpl := hpl)) fun σ H Q ⟨H0, F0, F, τ, S, h⟩ => by
    refine ⟨H0, F0, F, τ, S, EndE.mono (EndE.seq h) fun x H1 ⟨ra, F1, p1, r1, h1⟩ => ?_⟩
    obtain ⟨r, e, k⟩ := okR_end h1
    exact cs_is t x F1 H1 ra.d r p1.fh r1 e Q k

/-! ### defs called -/
/-- what a def promises: it is G on data -/
def spG (K : PySem.W.Frag) (n : Nat) (G : Gf) : Sp := fun vs H Q E => vs.length = n ∧ ∃ (F : Hp) (ds : List D), Ex F H ∧ Reps K F vs ds ∧ match G ds with
  | none => False
  | some (.ok r) => ∀ v F' H', Pst F H F' H' → RepR K H F' H' v r → Q v H'
  | some (.ex c) => ∀ F' H', Pst F H F' H' → E (cv K c) none H'
/-- the name x stands for a def that is G (n parameters), in k levels -/
structure FnS (P : Program) (w : World) (K : PySem.W.Frag) (mg : Str → Option Value) (base : Heap) (k : Nat) (x : Str) (n : Nat) (G : Gf) : Prop where
  ex : ∃ (f : Addr) (fd : FuncData) (ps : List Str), mg x = some (.ref f) ∧ PySem.W.keepIn K (.ref f) = true ∧ Binds K fd ps [] ∧ ps.length = n ∧ FnOk P w K mg base (L2N.CX P w) k f fd ps (spG K n G)
theorem FnS.mono {P : Program} {w : World} {K : PySem.W.Frag} {mg : Str → Option Value} {base : Heap} {k j n : Nat} {x : Str} {G : Gf} (h : FnS P w K mg base k x n G) (l : k ≤ j) : FnS P w K mg base j x n G := by
  obtain ⟨f, fd, ps, a, b, c, d, e⟩ := h.ex
  exact ⟨f, fd, ps, a, b, c, d, e.mono l⟩
theorem se_call {k n : Nat} {x : Str} {q : Pos} {G : Gf} (hF : FnS X.prog X.w X.K X.mg X.base k x n G) (hr : Room k X.A) (tk : L2N.Takes X W) (hg : Gl X x) (hn : n = (e :: es).length) (ha : SA X W (e :: es) fs) (hdb : (x == ("__debug__" : Str)) = false := by decide)
    (he : starEach (e :: es) X.env = (false, eval e X.env) :: starEach es X.env := by rfl) (hpl : (backTo pos (starEach es X.env)).any (·.1) = false := by rfl) (hl : (e :: es).length = fs.length := by rfl) :
    SE X W (.Call (.Name x q) (e :: es) [] pos) (eCall G fs) := by
  obtain ⟨f, fd, ps, hm, hk, hb, hps, hFn⟩ := hF.ex
  refine PE.imp (pe_callS hFn hr hg hm hk hb (fun σ => L2N.passAt tk σ) ha hdb he hpl) fun σ H Q ⟨H0, F0, F, τ, S, h⟩ => ?_
  refine ⟨H0, F0, F, τ, S, EndA.mono (EndA.seq h) fun vs H1 ⟨ds, F1, ed, p1, r1, h1⟩ => ?_⟩
  have el : ∀ {fs : List ExF} {ds : List D}, eArgs fs τ = some (.ok ds) → fs.length = ds.length := by
    intro fs
    induction fs with
    | nil => intro ds q; cases q; rfl
    | cons f fs ih =>
      intro ds q
      unfold eArgs at q
      cases z : f τ with
      | none => rw [z] at q; cases q
      | some r =>
        cases r with
        | ex c => rw [z] at q; cases q
        | ok r =>
          rw [z] at q
          have q' : consR r.d (eArgs fs τ) = some (.ok ds) := q
          cases w : eArgs fs τ with
          | none => rw [w] at q'; cases q'
          | some s =>
            cases s with
            | ex c => rw [w] at q'; cases q'
            | ok es =>
              rw [w] at q'
              cases q'
              show fs.length + 1 = es.length + 1
              rw [ih w]
  refine ⟨by rw [r1.length, ← el ed, ← hl, hn], F1, ds, p1.fh, r1, ?_⟩
  cases z : G ds with
  | none => rw [z] at h1; exact h1
  | some r =>
    rw [z] at h1
    cases r with
    | ok r => exact h1
    | ex c => exact h1

/-! ### statements -/
def EndS (K : PySem.W.Frag) (W : WX) (H0 F0 F : Hp) (D : Ends) : Option Fl → Prop
  | none => False
  | some (.nx τ') => ∀ σ' F' H', Ex F F' → Stt K H0 F0 F' τ' σ' H' → D.nx σ' H'
  | some (.bk τ') => ∀ σ' F' H', Ex F F' → Stt K H0 F0 F' τ' σ' H' → D.bk σ' H'
  | some (.ct τ') => ∀ σ' F' H', Ex F F' → Stt K H0 F0 F' τ' σ' H' → D.ct σ' H'
  | some (.rt r) => ∀ v F' H', Pst F0 H0 F' H' → RepR K H0 F' H' v r → D.rt v H'
  | some (.ex c τ') => ∀ σ' F' H', Ex F F' → Stt K H0 F0 F' τ' σ' H' → W (cv K c) none σ' H'
def tS (K : PySem.W.Frag) (W : WX) (g : StF) : TS := fun D σ H => ∃ (H0 F0 F : Hp) (τ : List Sl), Stt K H0 F0 F τ σ H ∧ EndS K W H0 F0 F D (g τ)
end
abbrev SS (X : Cx) (W : WX) (st : Stmt) (g : StF) : Prop := PS X st (tS X.K W g)
abbrev SB (X : Cx) (W : WX) (sts : List Stmt) (g : StF) : Prop := PSs X sts (tS X.K W g)
section
variable {K : PySem.W.Frag} {W : WX} {H0 F0 F F1 H H1 : Hp} {D D' : Ends} {σ : L2.St} {τ : List Sl}
theorem EndS.shift {z : Option Fl} (h : EndS K W H0 F0 F D z) (x : Ex F F1) : EndS K W H0 F0 F1 D z := by
  cases z with
  | none => exact h
  | some r => cases r with
    | rt r => exact h
    | nx t => exact fun σ' F' H' y => h σ' F' H' (x.trans y)
    | bk t => exact fun σ' F' H' y => h σ' F' H' (x.trans y)
    | ct t => exact fun σ' F' H' y => h σ' F' H' (x.trans y)
    | ex c t => exact fun σ' F' H' y => h σ' F' H' (x.trans y)
/-- an expression, then the rest of a statement -/
theorem EndS.seq {x : Option Res} {k : R → Option Fl} (S : Stt K H0 F0 F τ σ H) (h : EndS K W H0 F0 F D (sd x τ k)) :
    EndE K W F σ H (fun v H1 => ∃ r F1, Pst F H F1 H1 ∧ RepR K H F1 H1 v r ∧ x = some (.ok r) ∧ EndS K W H0 F0 F1 D (k r)) x := by
  cases x with
  | none => exact h
  | some z =>
    cases z with
    | ex c => exact fun F' H' p => h σ F' H' p.ff (S.step p)
    | ok r => exact fun v F1 H1 p q => ⟨r, F1, p, q, rfl, EndS.shift (show EndS K W H0 F0 F D (k r) from h) p.ff⟩
theorem EndS.seqT {x : Option Res} {k : R → Option Fl} (hk : ∀ r, asB r = none → k r = none) (S : Stt K H0 F0 F τ σ H) (h : EndS K W H0 F0 F D (sd x τ k)) :
    EndT K W F σ H (fun b H1 => ∃ F1, Pst F H F1 H1 ∧ EndS K W H0 F0 F1 D (k (.v (.bl b)))) x := by
  cases x with
  | none => exact h
  | some z =>
    cases z with
    | ex c => exact fun F' H' p => h σ F' H' p.ff (S.step p)
    | ok r =>
      show (match asB r with
        | some b => ∀ F' H', Pst F H F' H' → ∃ F1, Pst F H F1 H' ∧ EndS K W H0 F0 F1 D (k (.v (.bl b)))
        | none => False)
      have h' : EndS K W H0 F0 F D (k r) := h
      cases e : asB r with
      | none => rw [hk r e] at h'; exact h'
      | some b =>
        have := asB_some e
        subst this
        exact fun F' H' p => ⟨F', p, h'.shift p.ff⟩
end
section
variable {X : Cx} {W : WX} {e a b c : Expr} {f g h : ExF} {pos : Pos} {es : List Expr} {fs : List ExF} {st : Stmt} {rest : List Stmt} {s t u : StF}
theorem sb_nil : SB X W [] sNx := PSs.imp pss_nil fun D σ H ⟨H0, F0, F, τ, S, h⟩ => h σ F H (Ex.refl F) S
theorem seq_end {D : Ends} {σ : L2.St} {H : Hp} (h : tS X.K W (sSeq s t) D σ H) : tS X.K W s { D with nx := tS X.K W t D } σ H := by
  obtain ⟨H0, F0, F, τ, S, h⟩ := h
  refine ⟨H0, F0, F, τ, S, ?_⟩
  unfold sSeq at h
  cases q : s τ with
  | none => rw [q] at h; exact h
  | some r =>
    rw [q] at h
    cases r with
    | nx τ' => exact fun σ' F' H' x S' => ⟨H0, F0, F', τ', S', EndS.shift h x⟩
    | bk τ' => exact h
    | ct τ' => exact h
    | rt r => exact h
    | ex c τ' => exact h
theorem sb_cons (h1 : SS X W st s) (h2 : SB X W rest t) : SB X W (st :: rest) (sSeq s t) := PSs.imp (pss_cons h1 h2) fun D σ H h => seq_end h
theorem sb_one (h1 : SS X W st s) : SB X W [st] s := pss_one h1
/-- a step that has no statement -/
theorem sb_skip (k : ∀ D σ H, tS X.K W (sSeq s t) D σ H → tS X.K W t D σ H) (h2 : SB X W rest t) : SB X W rest (sSeq s t) := PSs.imp h2 k
theorem frz_end {i : Nat} {D : Ends} {σ : L2.St} {H : Hp} (h : tS X.K W (sSeq (sFrz i) t) D σ H) : tS X.K W t D σ H := by
  obtain ⟨H0, F0, F, τ, S, h⟩ := h
  obtain ⟨F1, S1, x1, _⟩ := lend_stt [i] S
  exact ⟨H0, F0, F1, _, S1, EndS.shift (show EndS X.K W H0 F0 F D (t (τ.set i ((τ.getD i .un).lent))) from h) x1⟩
theorem sb_frz {i : Nat} (h2 : SB X W rest t) : SB X W rest (sSeq (sFrz i) t) := PSs.imp h2 fun D σ H h => frz_end h
theorem ss_pass : SS X W (.Pass pos) sNx := PS.imp ps_pass fun D σ H ⟨H0, F0, F, τ, S, h⟩ => h σ F H (Ex.refl F) S
theorem ss_brk : SS X W (.Break pos) sBrk := PS.imp ps_break fun D σ H ⟨H0, F0, F, τ, S, h⟩ => h σ F H (Ex.refl F) S
theorem ss_cnt : SS X W (.Continue pos) sCnt := PS.imp ps_continue fun D σ H ⟨H0, F0, F, τ, S, h⟩ => h σ F H (Ex.refl F) S
theorem asg_end {i : Nat} {D : Ends} {σ : L2.St} {H : Hp} (h : tS X.K W (sAsg i f) D σ H) : tAsg (tE X.K W f) (gName i) D σ H := by
  obtain ⟨H0, F0, F, τ, S, h⟩ := h
  refine ⟨H0, F0, F, τ, S, EndE.mono (EndS.seq S h) fun v H1 ⟨r, F1, p1, r1, _, h1⟩ => ?_⟩
  exact h1 _ F1 H1 (Ex.refl F1) (S.setR p1 r1)
theorem ss_asg {i : Nat} {x : Str} {p : Pos} (hp : PS X (.Assign [.Name x p] e pos) (tAsg (tE X.K W f) (gName i))) : SS X W (.Assign [.Name x p] e pos) (sAsg i f) := PS.imp hp fun D σ H h => asg_end h
theorem ss_ret (he : SE X W e f) : SS X W (.Return (some e) pos) (sRet f) := PS.imp (ps_ret he) fun D σ H ⟨H0, F0, F, τ, S, h⟩ =>
  ⟨H0, F0, F, τ, S, EndE.mono (EndS.seq S h) fun v H1 ⟨r, F1, p1, r1, _, h1⟩ => h1 v F1 H1 (S.pst.trans p1) (r1.back S.pst.hh)⟩
theorem ss_retV {i : Nat} {x : Str} {p : Pos} (hv : PE X (.Name x p) (tVar i)) : SS X W (.Return (some (.Name x p)) pos) (sRetV i) := PS.imp (ps_ret hv) fun D σ H ⟨H0, F0, F, τ, S, h⟩ => by
  unfold sRetV at h
  cases q : τ.getD i .un with
  | un => rw [q] at h; exact h.elim
  | va d =>
    rw [q] at h
    obtain ⟨v, e1, r⟩ := S.val i d (getD_some q (by intro z; cases z))
    exact ⟨v, e1, h v F H S.pst r⟩
  | ow b ds =>
    rw [q] at h
    obtain ⟨l, xs, e1, e2, e3, e4, r⟩ := S.own i b ds (getD_some q (by intro z; cases z))
    exact ⟨_, e1, h _ F H S.pst ⟨l, xs, rfl, e4, e3, e2, r⟩⟩
theorem ss_if {p q : List Stmt} (hc : ST X W c f) (ha : SB X W p s) (hb : SB X W q t) : SS X W (.If c p q pos) (sIf f s t) := PS.imp (ps_if hc ha hb) fun D σ H ⟨H0, F0, F, τ, S, h⟩ => by
  refine ⟨H0, F0, F, τ, S, EndT.mono (EndS.seqT (fun r z => asBk z) S h) fun b H1 ⟨F1, p1, h1⟩ => ?_⟩
  cases b with
  | true => exact ⟨H0, F0, F1, τ, S.step p1, h1⟩
  | false => exact ⟨H0, F0, F1, τ, S.step p1, h1⟩
theorem ss_drop (he : SE X W e f) (hs : swapsWith e none pos.line X.env = pure false := by rfl) : SS X W (.Expr e pos) (sDrop f) := PS.imp (ps_expr he hs) fun D σ H ⟨H0, F0, F, τ, S, h⟩ =>
  ⟨H0, F0, F, τ, S, EndE.mono (EndS.seq S h) fun v H1 ⟨r, F1, p1, r1, _, h1⟩ => h1 σ F1 H1 (Ex.refl F1) (S.step p1)⟩
/-- two names at once -/
theorem ss_par {i j : Nat} (hp : PS X st (tPar i j (tAs X.K W [f, g]))) : SS X W st (sPar i j f g) := PS.imp hp fun D σ H ⟨H0, F0, F, τ, S, h⟩ => by
  refine ⟨H0, F0, F, τ, S, ?_⟩
  have h2 : EndS X.K W H0 F0 F D (sd (f τ) τ fun a => sd (g τ) τ fun b => some (.nx ((τ.set i (.va a.d)).set j (.va b.d)))) := h
  show EndA X.K W F σ H _ (match f τ with
    | some (.ok r) => consR r.d (eArgs [g] τ)
    | some (.ex c) => some (.ex c)
    | none => none)
  cases q : f τ with
  | none => rw [q] at h2; exact h2
  | some r =>
    cases r with
    | ex c => rw [q] at h2; exact fun F' H' p => h2 σ F' H' p.ff (S.step p)
    | ok ra =>
      rw [q] at h2
      show EndA X.K W F σ H _ (consR ra.d (match g τ with
        | some (.ok r) => consR r.d (eArgs [] τ)
        | some (.ex c) => some (.ex c)
        | none => none))
      have h3 : EndS X.K W H0 F0 F D (sd (g τ) τ fun b => some (.nx ((τ.set i (.va ra.d)).set j (.va b.d)))) := h2
      cases w : g τ with
      | none => rw [w] at h3; exact h3
      | some r =>
        cases r with
        | ex c => rw [w] at h3; exact fun F' H' p => h3 σ F' H' p.ff (S.step p)
        | ok rb =>
          rw [w] at h3
          intro vs F' H' p rs
          cases rs with
          | cons r1 rs =>
            cases rs with
            | cons r2 rs =>
              cases rs
              exact ⟨_, _, rfl, h3 _ F' H' p.ff (((S.step p).setV r1).setV r2)⟩
/-- raise C('..') -/
theorem ss_raise {cn m : Str} {j : Nat} {p p2 p3 : Pos} (hp : PS X (.Raise (some (.Call (.Name cn p) [.Constant (.str m) j p2] [] p3)) none pos) (fun _ σ H => W (cv X.K cn) none σ H)) :
    SS X W (.Raise (some (.Call (.Name cn p) [.Constant (.str m) j p2] [] p3)) none pos) (sRaise cn) := PS.imp hp fun D σ H ⟨H0, F0, F, τ, S, h⟩ => h σ F H (Ex.refl F) S
/-- x.append(e) -/
theorem getD_set {τ : List Sl} {i : Nat} {s t : Sl} (h : τ.getD i .un = s) (hn : s ≠ .un) : (τ.set i t)[i]? = some t := by
  have := getD_some h hn
  exact List.getElem?_set_self (List.getElem?_eq_some_iff.mp this).1
theorem ex_mut {F H : Hp} {l : Addr} {o : HO} (e : Ex F H) (n : F l = none) : Ex F (upd H l o) := fun a u h => by
  rw [upd_ne (ne_of_none h n)]
  exact e a u h
/-- an own list is changed -/
theorem Stt.mut {K : PySem.W.Frag} {H0 F0 F H : Hp} {τ : List Sl} {σ : L2.St} {i : Nat} {b : Bool} {ds es : List D} {l : Addr} {xs ys : List V} (S : Stt K H0 F0 F τ σ H) (h : τ[i]? = some (Sl.ow b ds)) (hs : σ[i]? = some (some (V.ref l))) (hl : H l = some (.lst xs)) (hf : F l = none) (h0 : H0 l = none) (r : Reps K F ys es) :
    Stt K H0 F0 F (τ.set i (.ow b es)) σ (upd H l (.lst ys)) := by
  have S1 : ∀ {j : Nat} {c : Bool} {zs : List D}, i ≠ j → τ[j]? = some (Sl.ow c zs) → ∃ l' ws, σ[j]? = some (some (V.ref l')) ∧ (upd H l (.lst ys)) l' = some (.lst ws) ∧ F l' = none ∧ H0 l' = none ∧ Reps K F ws zs := fun {j c zs} n q => by
    obtain ⟨l', ws, f1, f2, f3, f4, f5⟩ := S.own j c zs q
    refine ⟨l', ws, f1, ?_, f3, f4, f5⟩
    have ne : l' ≠ l := fun z => by
      subst z
      exact n (S.dis i j b c ds zs l' h q hs f1)
    rw [upd_ne ne]
    exact f2
  refine ⟨⟨fun a o q => ?_, S.pst.ff, S.pst.nw, ex_mut S.pst.fh hf⟩, by rw [List.length_set]; exact S.len, fun j d q => ?_, fun j c zs q => ?_, fun j k b1 c1 ds1 es1 l1 h1 h2 h3 h4 => ?_⟩
  · rw [upd_ne (ne_of_none q h0)]
    exact S.pst.hh a o q
  · rcases set_get q with ⟨rfl, z⟩ | ⟨_, z⟩
    · cases z
    · exact S.val j d z
  · rcases set_get q with ⟨rfl, z⟩ | ⟨n, z⟩
    · cases z
      exact ⟨l, ys, hs, upd_same, hf, h0, r⟩
    · exact S1 n z
  · have key : ∀ {j : Nat} {b' : Bool} {zs : List D}, (τ.set i (Sl.ow b es))[j]? = some (Sl.ow b' zs) → ∃ b2 ws, τ[j]? = some (Sl.ow b2 ws) := fun {j b' zs} q => by
      rcases set_get q with ⟨rfl, z⟩ | ⟨_, z⟩
      · exact ⟨b, ds, h⟩
      · exact ⟨b', zs, z⟩
    obtain ⟨_, _, z1⟩ := key h1
    obtain ⟨_, _, z2⟩ := key h2
    exact S.dis j k _ _ _ _ l1 z1 z2 h3 h4
theorem ss_app {i : Nat} {o : Expr} {ap p2 : Pos} (hv : PE X o (tVar i)) (he : SE X W e f)
    (hb : attributeBase o "append" X.env (eval o X.env) = eval o X.env := by rfl)
    (hfew : ((backTo p2 (starEach (e :: []) X.env)).all (fun x => !x.1) && (backToKw p2 (keywordEach [] X.env)).all (fun x => x.1.isSome)
      && decide ((e :: []).length + ([] : List Keyword).length + (if ([] : List Keyword).isEmpty then 0 else 1) < 30)) = true := by rfl)
    (hline : (ap.endLine == p2.line) = true := by rfl) (h1 : starEach (e :: []) X.env = (false, eval e X.env) :: starEach [] X.env := by rfl) (hpl : (backTo p2 (starEach [] X.env)).any (·.1) = false := by rfl)
    (hs : swapsWith (.Call (.Attribute o "append" ap) [e] [] p2) none pos.line X.env = pure false := by rfl) :
    SS X W (.Expr (.Call (.Attribute o "append" ap) [e] [] p2) pos) (sApp i f) := by
  refine PS.imp (ps_expr (pe_bm PySem.F.plainAttrs_list PySem.F.slot_list_append PySem.F.type_list_append mt_append hv (pa_cons he pa_nil h1) hb hfew hline h1 hpl) hs) fun D σ H ⟨H0, F0, F, τ, S, h⟩ => ?_
  unfold sApp at h
  cases q : τ.getD i .un with
  | un => rw [q] at h; exact h.elim
  | va d => rw [q] at h; exact h.elim
  | ow b ds =>
    cases b with
    | true => rw [q] at h; exact h.elim
    | false =>
      rw [q] at h
      have hq := getD_some q (by intro z; cases z)
      obtain ⟨l, xs, e1, e2, e3, e4, rs⟩ := S.own i false ds hq
      have hl : xs.length = ds.length := rs.length
      refine ⟨.ref l, e1, .inl ⟨rfl, xs, SqL.of e2⟩, H0, F0, F, τ, S, EndE.mono (EndS.seq S h) fun v H1 ⟨r, F1, p1, r1, _, h1⟩ => ?_⟩
      obtain ⟨F2, p2, x2, r2⟩ := r1.frz p1
      by_cases w : ds.length < Pv.line
      · rw [if_pos w] at h1
        refine ⟨l, xs, v, rfl, rfl, p1.hh _ _ e2, by rw [hl, ← line_eq]; exact w, ?_⟩
        have S2 := S.step p2
        exact h1 _ F2 _ x2 (S2.mut hq e1 (p1.hh _ _ e2) (p2.out e3 e2) e4 ((rs.mono p2.ff).append (.cons r2 .nil)))
      · rw [if_neg w] at h1
        exact h1.elim
/-- x[k] = e -/
theorem ss_set {i : Nat} {q : ExF} (hp : PS X st (tAsg (tE X.K W f) (gSub (tVar i) (tE X.K W q) rSetL))) : SS X W st (sSet i q f) := PS.imp hp fun D σ H ⟨H0, F0, F, τ, S, h⟩ => by
  unfold sSet at h
  cases z : τ.getD i .un with
  | un => rw [z] at h; exact h.elim
  | va d => rw [z] at h; exact h.elim
  | ow b ds =>
    cases b with
    | true => rw [z] at h; exact h.elim
    | false =>
      rw [z] at h
      refine ⟨H0, F0, F, τ, S, EndE.mono (EndS.seq S h) fun v H1 ⟨r, F1, p1, r1, _, h1⟩ => ?_⟩
      obtain ⟨F2, p2, x2, r2⟩ := r1.frz p1
      have S2 := S.step p2
      have h2 := EndS.seq S2 (EndS.shift h1 x2)
      have hq := getD_some z (by intro z; cases z)
      obtain ⟨l, xs, e1, e2, e3, e4, rs⟩ := S2.own i false ds hq
      refine ⟨_, e1, H0, F0, F2, τ, S2, EndE.mono h2 fun w H3 ⟨rk, F3, p3, r3, _, h3⟩ => ?_⟩
      obtain ⟨F4, p4, x4, r4⟩ := r3.frz p3
      have h3' := EndS.shift h3 x4
      cases ek : rk.d with
      | int y =>
        rw [ek] at h3' r4
        cases r4
        have h5 : EndS X.K W H0 F0 F4 D (match Pv.atI ds.length y with
          | some j => some (Fl.nx (τ.set i (.ow false (ds.set j r.d))))
          | none => none) := h3'
        cases ej : Pv.atI ds.length y with
        | none => rw [ej] at h5; exact h5.elim
        | some j =>
          rw [ej] at h5
          refine ⟨l, xs, y, j, rfl, rfl, p3.hh _ _ e2, by rw [ixN_atI, rs.length]; exact ej, ?_⟩
          have S4 := S2.step p4
          exact h5 _ F4 _ (Ex.refl _) (S4.mut hq e1 (p3.hh _ _ e2) (p4.out e3 e2) e4 (Reps.set (r2.mono p4.ff) j (rs.mono p4.ff)))
      | non => rw [ek] at h3'; exact h3'.elim
      | bl y => rw [ek] at h3'; exact h3'.elim
      | str y => rw [ek] at h3'; exact h3'.elim
      | lst y => rw [ek] at h3'; exact h3'.elim
      | tup y => rw [ek] at h3'; exact h3'.elim
      | scr y => rw [ek] at h3'; exact h3'.elim
      | adr y => rw [ek] at h3'; exact h3'.elim
end
end Pw
set_option Elab.async false
set_option linter.all false
set_option maxRecDepth 100000
set_option maxHeartbeats 2000000
/-! I6: what is walked, targets, for, comprehensions, defs, try. -/
namespace Pw
open PySem PySem.Spec PyProof.Rows L2 Pv

/-- the walk J goes over data, from the known part F1 on -/
structure Walk (K : PySem.W.Frag) (F1 : Hp) (J : It) (ds : List D) : Prop where
  go : ∀ (i : Nat) (F H : Hp), Ex F1 F → Ex F H → i < ds.length → J.go i H
  stop : ∀ (i : Nat) (F H : Hp), Ex F1 F → Ex F H → i = ds.length → J.stop i H
  yl : ∀ (i : Nat) (F H : Hp) (x : V) (H' : Hp) (d : D), Ex F1 F → Ex F H → ds[i]? = some d → J.yld i H x H' → ∃ F', Pst F H F' H' ∧ Rep K F' x d
section
variable {K : PySem.W.Frag} {F1 : Hp}
theorem wk_list {a : Addr} {xs : List V} {ds : List D} (h : F1 a = some (.lst xs)) (r : Reps K F1 xs ds) : Walk K F1 (Itl K a) ds := by
  have hl := r.length
  refine ⟨fun i F H e1 e2 hi => ?_, fun i F H e1 e2 hi => ?_, fun i F H x H' d e1 e2 hd y => ?_⟩
  · have : i < xs.length := by omega
    exact ⟨xs, xs[i], SqL.of (e2 _ _ (e1 _ _ h)), List.getElem?_eq_getElem this⟩
  · exact ⟨xs, SqL.of (e2 _ _ (e1 _ _ h)), by omega⟩
  · obtain ⟨rfl, y⟩ := y
    obtain ⟨v, ev, rv⟩ := r.get hd
    have := y xs (SqL.of (e2 _ _ (e1 _ _ h)))
    rw [ev] at this
    cases this
    exact ⟨F, Pst.refl e2, rv.mono e1⟩
theorem wk_tup {a : Addr} {xs : List V} {ds : List D} (h : SqT K F1 a xs) (r : Reps K F1 xs ds) : Walk K F1 (Itt K a) ds := by
  have hl := r.length
  refine ⟨fun i F H e1 e2 hi => ?_, fun i F H e1 e2 hi => ?_, fun i F H x H' d e1 e2 hd y => ?_⟩
  · have : i < xs.length := by omega
    exact ⟨xs, xs[i], e2.st (e1.st h), List.getElem?_eq_getElem this⟩
  · exact ⟨xs, e2.st (e1.st h), by omega⟩
  · obtain ⟨rfl, y⟩ := y
    obtain ⟨v, ev, rv⟩ := r.get hd
    have := y xs (e2.st (e1.st h))
    rw [ev] at this
    cases this
    exact ⟨F, Pst.refl e2, rv.mono e1⟩
theorem intsD_length : ∀ (n : Nat) (lo : Int), (intsD n lo).length = n
  | 0, _ => rfl
  | n + 1, lo => by
    show (intsD n (lo + 1)).length + 1 = n + 1
    rw [intsD_length n]
theorem intsD_get : ∀ (n : Nat) (lo : Int) (i : Nat), i < n → (intsD n lo)[i]? = some (.int (lo + i))
  | 0, _, _, h => absurd h (Nat.not_lt_zero _)
  | n + 1, lo, 0, _ => by
    show some (D.int lo) = _
    simp
  | n + 1, lo, i + 1, h => by
    show (intsD n (lo + 1))[i]? = _
    rw [intsD_get n (lo + 1) i (by omega)]
    congr 2
    omega
theorem wk_rng (lo : Int) (n : Nat) : Walk K F1 (Itr lo n) (intsD n lo) := by
  have hl := intsD_length n lo
  refine ⟨fun i F H e1 e2 hi => ?_, fun i F H e1 e2 hi => ?_, fun i F H x H' d e1 e2 hd y => ?_⟩
  · show i < n
    omega
  · show n ≤ i
    omega
  · obtain ⟨rfl, rfl⟩ := y
    have hi : i < n := by
      have := (List.getElem?_eq_some_iff.mp hd).1
      omega
    rw [intsD_get n lo i hi] at hd
    cases hd
    exact ⟨F, Pst.refl e2, .int _⟩
theorem wk_str (x : Str) : Walk K F1 (Its x) (x.cps.toList.map fun c => D.str ⟨#[c]⟩) := by
  have hl : (x.cps.toList.map fun c => D.str ⟨#[c]⟩).length = x.cps.size := by rw [List.length_map]; rfl
  refine ⟨fun i F H e1 e2 hi => ?_, fun i F H e1 e2 hi => ?_, fun i F H y H' d e1 e2 hd z => ?_⟩
  · show i < x.cps.size
    omega
  · show x.cps.size ≤ i
    omega
  · obtain ⟨rfl, c, hc, rfl⟩ := z
    rw [List.getElem?_map, Array.getElem?_toList, hc] at hd
    cases hd
    exact ⟨F, Pst.refl e2, .str _⟩
end

/-! ### sources -/
def EndR (K : PySem.W.Frag) (W : WX) (F : Hp) (σ : L2.St) (H : Hp) (Z : It → Hp → Prop) : Option Rs → Prop
  | none => False
  | some (.ok ds) => ∀ J F' H', Pst F H F' H' → Walk K F' J ds → Z J H'
  | some (.ex c) => ∀ F' H', Pst F H F' H' → W (cv K c) none σ H'
def tI (K : PySem.W.Frag) (W : WX) (src : Src) : TI := fun σ H Z => ∃ (H0 F0 F : Hp) (τ : List Sl), Stt K H0 F0 F τ σ H ∧ EndR K W F σ H Z (src τ)
abbrev SI (X : Cx) (W : WX) (tg iter : Expr) (src : Src) : Prop := PI X tg iter (tI X.K W src)
theorem PI.imp {X : Cx} {tg iter : Expr} {t t' : TI} (h : PI X tg iter t) (k : ∀ σ H Z, t' σ H Z → t σ H Z) : PI X tg iter t' := ⟨fun pins s σ H Z I q => h.run pins s σ H Z I (k σ H Z q)⟩
section
variable {X : Cx} {W : WX} {e a b tg iter : Expr} {f g : ExF} {pos : Pos}
theorem EndR.shift {K : PySem.W.Frag} {F H F1 H1 : Hp} {σ : L2.St} {Z : It → Hp → Prop} {z : Option Rs} (h : EndR K W F σ H Z z) (p : Pst F H F1 H1) : EndR K W F1 σ H1 Z z := by
  cases z with
  | none => exact h
  | some r =>
    cases r with
    | ok r => exact fun J F' H' p' q => h J F' H' (p.trans p') q
    | ex c => exact fun F' H' p' => h F' H' (p.trans p')
theorem EndR.seq {K : PySem.W.Frag} {F H : Hp} {σ : L2.St} {Z : It → Hp → Prop} {x : Option Res} {k : R → Option Rs} (h : EndR K W F σ H Z (srB x k)) :
    EndE K W F σ H (fun v H1 => ∃ r F1, Pst F H F1 H1 ∧ Rep K F1 v r.d ∧ EndR K W F1 σ H1 Z (k r)) x := by
  cases x with
  | none => exact h
  | some z =>
    cases z with
    | ex c => exact h
    | ok r =>
      intro v F1 H1 p q
      obtain ⟨F2, p2, _, r2⟩ := q.frz p
      exact ⟨r, F2, p2, r2, EndR.shift (show EndR K W F σ H Z (k r) from h) p2⟩
/-- a list or a tuple -/
def iSeq (K : PySem.W.Frag) (tl : TE) : TI := fun σ H Z => tl σ H fun x H1 => ∃ a, x = .ref a ∧ (((∃ xs, SqL K H1 a xs) ∧ Z (Itl K a) H1) ∨ ((∃ xs, SqT K H1 a xs) ∧ Z (Itt K a) H1))
theorem pi_seq {l : Expr} {tl : TE} (hl : PE X l tl) : PI X tg l (iSeq X.K tl) := by
  refine ⟨fun pins s σ H Z I h => ?_⟩
  refine thn (hl.run pins s σ H _ I h) fun w t ⟨y, H1, I1, ry, a, ey, q1⟩ => ?_
  rw [ey] at ry
  cases ry
  have fresh : ∀ (ob : Obj) (b : Addr), b ∈ [t.heap.objs.size] → FpOk X pins H1 b := fun _ b hb => by
    rw [List.mem_singleton.mp hb]
    exact I1.fpOk (Nat.le_refl t.heap.objs.size) (I1.hok.fresh (Nat.le_refl t.heap.objs.size))
  rcases q1 with ⟨⟨xs, hq⟩, q⟩ | ⟨⟨xs, hq⟩, q⟩
  · obtain ⟨vs, -, p, -⟩ := I1.list hq
    refine wpAny_pyIter_list (p.isList) ⟨t.heap.objs.size, [t.heap.objs.size], _, _, H1, rfl, ?_, turn_list a t.heap.objs.size, ⟨_, Heap.get?_push_size _ rfl, rfl, rfl⟩, fresh default, q⟩
    exact I1.kept (t' := t.toks) fun b o hb => Heap.get?_push_of_some _ hb
  · obtain ⟨vs, -, p, -⟩ := I1.tuple hq
    refine wpAny_pyIter_tuple (items := vs.toArray) p ⟨t.heap.objs.size, [t.heap.objs.size], _, _, H1, rfl, ?_, turn_tuple a t.heap.objs.size, ⟨_, Heap.get?_push_size _ rfl, rfl, rfl⟩, fresh default, q⟩
    exact I1.kept (t' := t.toks) fun b o hb => Heap.get?_push_of_some _ hb
theorem si_seq (he : SE X W e f) : SI X W tg e (srSeq f) := PI.imp (pi_seq he) fun σ H Z ⟨H0, F0, F, τ, S, h⟩ => by
  refine ⟨H0, F0, F, τ, S, EndE.mono (EndR.seq h) fun x H1 ⟨r, F1, p1, r1, h1⟩ => ?_⟩
  cases q : r.d with
  | lst ds =>
    rw [q] at h1 r1
    cases r1 with
    | @lst a xs _ e1 e2 => exact ⟨a, rfl, .inl ⟨⟨xs, SqL.of (p1.fh _ _ e1)⟩, h1 _ F1 H1 (Pst.refl p1.fh) (wk_list e1 e2)⟩⟩
  | tup ds =>
    rw [q] at h1 r1
    cases r1 with
    | @tup a xs _ e1 e2 => exact ⟨a, rfl, .inr ⟨⟨xs, p1.fh.st e1⟩, h1 _ F1 H1 (Pst.refl p1.fh) (wk_tup e1 e2)⟩⟩
  | _ => rw [q] at h1; exact h1.elim
theorem rg_of {i : Int} (h : rgOk i = true) : -(2 ^ 62) ≤ i ∧ i < 2 ^ 62 := by
  obtain ⟨h1, h2⟩ := Bool.and_eq_true_iff.mp h
  exact ⟨of_decide_eq_true h1, of_decide_eq_true h2⟩
theorem si_r1 {p : Pos} (hg : Gl X "range") (hm : X.mg "range" = none) (ha : SE X W a f) (hs : starEach [a] X.env = [(false, eval a X.env)] := by rfl) (h1 : starEach (a :: []) X.env = (false, eval a X.env) :: starEach [] X.env := by rfl) :
    SI X W tg (.Call (.Name "range" p) [a] [] pos) (srR1 f) := PI.imp (pi_range1 hg hm (pa_cons ha pa_nil h1) hs) fun σ H Z ⟨H0, F0, F, τ, S, h⟩ => by
  refine ⟨H0, F0, F, τ, S, EndE.mono (EndR.seq h) fun x H1 ⟨r, F1, p1, r1, h1⟩ => ?_⟩
  cases q : r.d with
  | int n =>
    rw [q] at h1 r1
    cases r1
    have h2 : EndR X.K W F1 σ H1 Z (if rgOk n = true then some (.ok (intsD n.toNat 0)) else none) := h1
    by_cases z : rgOk n = true
    · rw [if_pos z] at h2
      obtain ⟨z1, z2⟩ := rg_of z
      exact ⟨n, rfl, z1, z2, h2 _ F1 H1 (Pst.refl p1.fh) (wk_rng 0 n.toNat)⟩
    · rw [if_neg z] at h2
      exact h2.elim
  | _ => rw [q] at h1; exact h1.elim
theorem si_r2 {p : Pos} (hg : Gl X "range") (hm : X.mg "range" = none) (ha : SE X W a f) (hb : SE X W b g) (hs : starEach [a, b] X.env = [(false, eval a X.env), (false, eval b X.env)] := by rfl) (hs2 : starEach [b] X.env = [(false, eval b X.env)] := by rfl)
    (h1 : starEach (a :: [b]) X.env = (false, eval a X.env) :: starEach [b] X.env := by rfl) (h2 : starEach (b :: []) X.env = (false, eval b X.env) :: starEach [] X.env := by rfl) :
    SI X W tg (.Call (.Name "range" p) [a, b] [] pos) (srR2 f g) := PI.imp (pi_range2 hg hm (pa_cons ha (pa_cons hb pa_nil h2) h1) hs hs2) fun σ H Z ⟨H0, F0, F, τ, S, h⟩ => by
  refine ⟨H0, F0, F, τ, S, EndE.mono (EndR.seq h) fun x H1 ⟨r, F1, p1, r1, h1⟩ => ?_⟩
  refine ⟨H0, F0, F1, τ, S.step p1, EndE.mono (EndR.seq h1) fun y H2 ⟨q, F2, p2, r2, h2⟩ => ?_⟩
  have r1' := r1.mono p2.ff
  cases e1 : r.d with
  | int n =>
    rw [e1] at h2 r1'
    cases r1'
    cases e2 : q.d with
    | int m =>
      rw [e2] at h2 r2
      cases r2
      have h3 : EndR X.K W F2 σ H2 Z (if (rgOk n && rgOk m) = true then some (.ok (intsD (m - n).toNat n)) else none) := h2
      by_cases z : (rgOk n && rgOk m) = true
      · rw [if_pos z] at h3
        obtain ⟨z1, z2⟩ := Bool.and_eq_true_iff.mp z
        obtain ⟨a1, a2⟩ := rg_of z1
        obtain ⟨b1, b2⟩ := rg_of z2
        exact ⟨n, m, rfl, ⟨a1, a2, b1, b2⟩, h3 _ F2 H2 (Pst.refl p2.fh) (wk_rng n (m - n).toNat)⟩
      · rw [if_neg z] at h3
        exact h3.elim
    | _ => rw [e2] at h2; exact h2.elim
  | _ => rw [e1] at h2; exact h2.elim
theorem si_str (he : SE X W e f) : SI X W tg e (srS f) := PI.imp (pi_str he) fun σ H Z ⟨H0, F0, F, τ, S, h⟩ => by
  refine ⟨H0, F0, F, τ, S, EndE.mono (EndR.seq h) fun x H1 ⟨r, F1, p1, r1, h1⟩ => ?_⟩
  cases q : r.d with
  | str z =>
    rw [q] at h1 r1
    cases r1
    exact ⟨z, rfl, h1 _ F1 H1 (Pst.refl p1.fh) (wk_str z)⟩
  | _ => rw [q] at h1; exact h1.elim
end

/-! ### targets -/
/-- js: the slots that are set -/
def TgS (K : PySem.W.Frag) (g : TG) (t : Tgt) (js : List Nat) : Prop := ∀ (v : V) (d : D) (H0 F0 F H : Hp) (σ : L2.St) (τ τ' : List Sl), Stt K H0 F0 F τ σ H → Rep K F v d → t d τ = some τ' →
  ∀ Q : L2.St → Hp → Prop, (∀ σ', Stt K H0 F0 F τ' σ' H → (∀ vs : List Nat, (∀ j ∈ js, j ∈ vs) → wipe σ' vs = wipe σ vs) → Q σ' H) → g v σ H Q
theorem wipe_set_none {σ : L2.St} {j : Nat} {x : Option V} : ∀ vs : List Nat, (wipe (σ.set j x) vs).set j none = (wipe σ vs).set j none
  | [] => by
    show (σ.set j x).set j none = σ.set j none
    rw [List.set_set]
  | v :: vs => by
    show ((wipe (σ.set j x) vs).set v none).set j none = ((wipe σ vs).set v none).set j none
    by_cases e : v = j
    · subst e
      rw [List.set_set, List.set_set]
      exact wipe_set_none vs
    · rw [List.set_comm _ _ e, List.set_comm _ _ e, wipe_set_none vs]
theorem wipe_set {σ : L2.St} {j : Nat} {x : Option V} : ∀ {vs : List Nat}, j ∈ vs → wipe (σ.set j x) vs = wipe σ vs
  | v :: vs, h => by
    show (wipe (σ.set j x) vs).set v none = (wipe σ vs).set v none
    by_cases e : j = v
    · subst e
      exact wipe_set_none vs
    · have : j ∈ vs := by
        rcases List.mem_cons.mp h with z | z
        · exact absurd z e
        · exact z
      rw [wipe_set this]
theorem wipe_wipe {σ : L2.St} : ∀ vs : List Nat, (∀ ws : List Nat, (∀ j ∈ vs, j ∈ ws) → wipe (wipe σ vs) ws = wipe σ ws)
  | [], ws, _ => rfl
  | v :: vs, ws, h => by
    show wipe ((wipe σ vs).set v none) ws = wipe σ ws
    rw [wipe_set (h v (List.mem_cons_self)), wipe_wipe vs ws fun j hj => h j (List.mem_cons_of_mem _ hj)]
theorem tgs_n {K : PySem.W.Frag} {j : Nat} : TgS K (gName j) (tgN j) [j] := fun v d H0 F0 F H σ τ τ' S r e Q q => by
  cases e
  exact q _ (S.setV r) fun vs h => wipe_set (h j (List.mem_cons_self))
theorem tgs_2 {K : PySem.W.Frag} {i j : Nat} : TgS K (gTup K 2 (gCons (gName i) (gCons (gName j) gNil))) (tg2 i j) [i, j] := fun v d H0 F0 F H σ τ τ' S r e Q q => by
  cases r with
  | @tup a xs ds h1 h2 =>
    cases h2 with
    | nil => cases e
    | cons r1 h2 =>
      cases h2 with
      | nil => cases e
      | cons r2 h2 =>
        cases h2 with
        | cons r3 h2 => cases e
        | nil =>
          cases e
          refine ⟨a, _, rfl, S.pst.fh.st h1, rfl, _, _, rfl, _, _, rfl, rfl, q _ ((S.setV r1).setV r2) fun vs h => ?_⟩
          rw [wipe_set (h j (by simp)), wipe_set (h i (by simp))]
  | _ => cases e

/-! ### for -/
theorem loop_core {K : PySem.W.Frag} {W : WX} {H0 F0 F1 H : Hp} {D0 : Ends} {σ : L2.St} {τ : List Sl} {J : It} {ds : List D} {t : Tgt} {js : List Nat} {g : TG} {body : StF} {tb : TS} (S : Stt K H0 F0 F1 τ σ H) (hJ : Walk K F1 J ds) (hT : TgS K g t js)
    (htb : ∀ D σ H, tS K W body D σ H → tb D σ H) (h : EndS K W H0 F0 F1 D0 (loop t body ds τ)) :
    ∃ W' : Nat → Nat → L2.St → Hp → Prop, (∃ m, W' 0 m σ H) ∧ ∀ i m σ H, W' i m σ H → (J.stop i H ∧ D0.nx σ H) ∨ (J.go i H ∧ ∃ N : L2.St → Hp → Prop, (∀ σ' H', N σ' H' → ∃ m', m' < m ∧ W' (i + 1) m' σ' H') ∧
      ∀ x H', J.yld i H x H' → g x σ H' fun σ2 H2 => tb { D0 with nx := N, ct := N, bk := D0.nx } σ2 H2) := by
  refine ⟨fun i m σ' H' => m = ds.length - i ∧ i ≤ ds.length ∧ ∃ F' τ', Ex F1 F' ∧ Stt K H0 F0 F' τ' σ' H' ∧ EndS K W H0 F0 F' D0 (loop t body (ds.drop i) τ'), ⟨ds.length, by simp, Nat.zero_le _, F1, τ, Ex.refl F1, S, h⟩, ?_⟩
  rintro i m σ' H' ⟨rfl, hi, F', τ', x1, S', h'⟩
  by_cases hlt : i < ds.length
  · obtain ⟨d, hd⟩ : ∃ d, ds[i]? = some d := ⟨ds[i], List.getElem?_eq_getElem hlt⟩
    have ed : ds.drop i = d :: ds.drop (i + 1) := by
      rw [List.drop_eq_getElem_cons hlt]
      rw [List.getElem?_eq_getElem hlt] at hd
      rw [Option.some.inj hd]
    rw [ed] at h'
    refine .inr ⟨hJ.go i F' H' x1 S'.pst.fh hlt, fun σ'' H'' => i + 1 ≤ ds.length ∧ ∃ F'' τ'', Ex F1 F'' ∧ Stt K H0 F0 F'' τ'' σ'' H'' ∧ EndS K W H0 F0 F'' D0 (loop t body (ds.drop (i + 1)) τ''),
      fun σ'' H'' ⟨a, F'', τ'', b⟩ => ⟨ds.length - (i + 1), by omega, rfl, a, F'', τ'', b⟩, fun x H2 y => ?_⟩
    obtain ⟨F2, p2, rx⟩ := hJ.yl i F' H' x H2 d x1 S'.pst.fh hd y
    have S2 := S'.step p2
    have h2 := EndS.shift h' p2.ff
    have h3 : EndS K W H0 F0 F2 D0 (match t d τ' with
      | none => none
      | some τ1 => match body τ1 with
        | some (.nx τ') => loop t body (ds.drop (i + 1)) τ'
        | some (.ct τ') => loop t body (ds.drop (i + 1)) τ'
        | some (.bk τ') => some (.nx τ')
        | o => o) := h2
    cases et : t d τ' with
    | none => rw [et] at h3; exact h3.elim
    | some τ1 =>
      rw [et] at h3
      refine hT x d H0 F0 F2 H2 σ' τ' τ1 S2 rx et _ fun σ3 S3 _ => htb _ _ _ ⟨H0, F0, F2, τ1, S3, ?_⟩
      have h4 : EndS K W H0 F0 F2 D0 (match body τ1 with
        | some (.nx τ') => loop t body (ds.drop (i + 1)) τ'
        | some (.ct τ') => loop t body (ds.drop (i + 1)) τ'
        | some (.bk τ') => some (.nx τ')
        | o => o) := h3
      cases eb : body τ1 with
      | none => rw [eb] at h4; exact h4.elim
      | some r =>
        rw [eb] at h4
        cases r with
        | nx τ4 => exact fun σ4 F4 H4 x4 S4 => ⟨hlt, F4, τ4, (x1.trans p2.ff).trans x4, S4, EndS.shift h4 x4⟩
        | ct τ4 => exact fun σ4 F4 H4 x4 S4 => ⟨hlt, F4, τ4, (x1.trans p2.ff).trans x4, S4, EndS.shift h4 x4⟩
        | bk τ4 => exact h4
        | rt r => exact h4
        | ex c τ4 => exact h4
  · have e : i = ds.length := by omega
    subst e
    rw [List.drop_length] at h'
    exact .inl ⟨hJ.stop _ F' H' x1 S'.pst.fh rfl, h' σ' F' H' (Ex.refl F') S'⟩
section
variable {X : Cx} {W : WX} {e a b tg iter : Expr} {f g : ExF} {pos : Pos}
theorem ss_for {src : Src} {t : Tgt} {js : List Nat} {gg : TG} {body : List Stmt} {s : StF} (hp : PassesOwn (model X.prog X.w) X.A X.env X.xe) (hc : X.calm = true) (hi : SI X W tg iter src) (hg : PG X tg gg) (hT : TgS X.K gg t js) (hb : SB X W body s)
    (hs : ∀ x, foldedSetIterable iter X.env x = pure x := by intro _; rfl) : SS X W (.For tg iter body [] pos) (sFor src t s) := PS.imp (ps_for hp hc hi hg hb hs) fun D σ H ⟨H0, F0, F, τ, S, h⟩ => by
  refine ⟨H0, F0, F, τ, S, ?_⟩
  unfold sFor at h
  cases q : src τ with
  | none => rw [q] at h; exact h
  | some r =>
    rw [q] at h
    cases r with
    | ex c => exact fun F' H' p => h σ F' H' p.ff (S.step p)
    | ok ds => exact fun J F1 H1 p1 hJ => loop_core (S.step p1) hJ hT (fun _ _ _ z => z) (EndS.shift h p1.ff)

/-! ### comprehensions -/
theorem Stt.wipe1 {K : PySem.W.Frag} {H0 F0 F H : Hp} {τ : List Sl} {σ : L2.St} {i : Nat} (S : Stt K H0 F0 F τ σ H) : Stt K H0 F0 F (τ.set i .un) (σ.set i none) H := by
  refine ⟨S.pst, by rw [List.length_set, List.length_set]; exact S.len, fun j d q => ?_, fun j c es q => ?_, fun j k b1 c1 ds1 es1 l h1 h2 h3 h4 => ?_⟩
  · rcases set_get q with ⟨rfl, z⟩ | ⟨n, z⟩
    · cases z
    · obtain ⟨v, e1, r⟩ := S.val j d z
      exact ⟨v, by rw [List.getElem?_set_ne n]; exact e1, r⟩
  · rcases set_get q with ⟨rfl, z⟩ | ⟨n, z⟩
    · cases z
    · obtain ⟨l, xs, e1, r⟩ := S.own j c es z
      exact ⟨l, xs, by rw [List.getElem?_set_ne n]; exact e1, r⟩
  · rcases set_get h1 with ⟨rfl, z⟩ | ⟨n1, z1⟩
    · cases z
    · rcases set_get h2 with ⟨rfl, z⟩ | ⟨n2, z2⟩
      · cases z
      · rw [List.getElem?_set_ne n1] at h3
        rw [List.getElem?_set_ne n2] at h4
        exact S.dis j k b1 c1 ds1 es1 l z1 z2 h3 h4
theorem Stt.wipe {K : PySem.W.Frag} {H0 F0 F H : Hp} {τ : List Sl} {σ : L2.St} (S : Stt K H0 F0 F τ σ H) : ∀ vs : List Nat, Stt K H0 F0 F (wipeT τ vs) (L2.wipe σ vs) H
  | [] => S
  | v :: vs => (Stt.wipe S vs).wipe1
/-- nothing may be raised -/
abbrev Wn : WX := fun _ _ _ _ => False
theorem Stt.heapD {K : PySem.W.Frag} {H0 F0 F H : Hp} {τ : List Sl} {σ : L2.St} {L : Addr} {o : HO} (S : Stt K H0 F0 F τ σ H) (hf : F L = none) (h0 : H0 L = none) (ho : ∀ (i : Nat) (b : Bool) (ds : List D), τ[i]? = some (Sl.ow b ds) → σ[i]? ≠ some (some (V.ref L))) : Stt K H0 F0 F τ σ (upd H L o) where
  pst := ⟨fun a u q => by
    rw [upd_ne (ne_of_none q h0)]
    exact S.pst.hh a u q, S.pst.ff, S.pst.nw, ex_mut S.pst.fh hf⟩
  len := S.len
  val := S.val
  own := fun i b ds e => by
    obtain ⟨l, xs, e1, e2, r⟩ := S.own i b ds e
    refine ⟨l, xs, e1, ?_, r⟩
    have : l ≠ L := fun z => by
      subst z
      exact ho i b ds e e1
    rw [upd_ne this]
    exact e2
  dis := S.dis
theorem comp_core {K : PySem.W.Frag} {H0 F0 F1 H1 : Hp} {σ : L2.St} {τ : List Sl} {J : It} {ds es : List D} {t : Tgt} {js vs : List Nat} {g : TG} {cond body : ExF} {tt : TT} {te : TE} {Q : VK} {L : Addr} (S : Stt K H0 F0 F1 τ σ H1) (hJ : Walk K F1 J ds) (hT : TgS K g t js) (hjs : ∀ j ∈ js, j ∈ vs)
    (htt : ∀ σ H Q, tT K Wn cond σ H Q → tt σ H Q) (hte : ∀ σ H Q, tE K Wn body σ H Q → te σ H Q) (hgo : compGo t cond body (wipeT τ vs) ds = some es) (hlen : ds.length ≤ Pv.line) (hL : H1 L = none)
    (hQ : ∀ v F' H', Pst F1 H1 F' H' → RepR K H1 F' H' v (.own es) → Q v H') :
    ∃ W' : Nat → Nat → Hp → Prop, (∃ m, W' 0 m (upd H1 L (.lst []))) ∧ ∀ i m H, W' i m H → (J.stop i H ∧ Q (.ref L) H) ∨ (J.go i H ∧ ∃ Nx : Hp → Prop, (∀ H', Nx H' → ∃ m', m' < m ∧ W' (i + 1) m' H') ∧
      ∀ x H', J.yld i H x H' → g x (L2.wipe σ vs) H' fun σ2 H2 => L2.wipe σ2 vs = L2.wipe σ vs ∧ tt σ2 H2 fun b H3 => if b = true then te σ2 H3 fun y H4 => ∃ acc, H4 L = some (.lst acc) ∧ acc.length < sizeLine ∧ Nx (upd H4 L (.lst (acc ++ [y]))) else Nx H3) := by
  have h0L : H0 L = none := S.pst.hh.none hL
  have f1L : F1 L = none := S.pst.fh.none hL
  have noL : ∀ (i : Nat) (b : Bool) (zs : List D), (wipeT τ vs)[i]? = some (Sl.ow b zs) → (L2.wipe σ vs)[i]? ≠ some (some (V.ref L)) := fun i b zs q z => by
    obtain ⟨l, xs, e1, e2, _⟩ := (S.wipe vs).own i b zs q
    rw [e1] at z
    cases z
    rw [e2] at hL
    cases hL
  refine ⟨fun i m H => m = ds.length - i ∧ i ≤ ds.length ∧ ∃ F acc as rest, Ex F1 F ∧ Pst F1 H1 F H ∧ Stt K H0 F0 F (wipeT τ vs) (L2.wipe σ vs) H ∧ F L = none ∧ H L = some (.lst acc) ∧ Reps K F acc as ∧ acc.length ≤ i ∧ compGo t cond body (wipeT τ vs) (ds.drop i) = some rest ∧ as ++ rest = es,
    ⟨ds.length, by simp, Nat.zero_le _, F1, [], [], es, Ex.refl F1, Pst.newH S.pst.fh hL, (S.wipe vs).heapD f1L h0L noL, f1L, upd_same, .nil, Nat.le_refl _, hgo, rfl⟩, ?_⟩
  rintro i m H ⟨rfl, hi, F, acc, as, rest, x1, p1, S1, fL, eL, ra, la, go, ee⟩
  by_cases hlt : i < ds.length
  · obtain ⟨d, hd⟩ : ∃ d, ds[i]? = some d := ⟨ds[i], List.getElem?_eq_getElem hlt⟩
    have ed : ds.drop i = d :: ds.drop (i + 1) := by
      rw [List.drop_eq_getElem_cons hlt]
      rw [List.getElem?_eq_getElem hlt] at hd
      rw [Option.some.inj hd]
    rw [ed] at go
    refine .inr ⟨hJ.go i F H x1 p1.fh hlt, fun H' => i + 1 ≤ ds.length ∧ ∃ F acc as rest, Ex F1 F ∧ Pst F1 H1 F H' ∧ Stt K H0 F0 F (wipeT τ vs) (L2.wipe σ vs) H' ∧ F L = none ∧ H' L = some (.lst acc) ∧ Reps K F acc as ∧ acc.length ≤ i + 1 ∧ compGo t cond body (wipeT τ vs) (ds.drop (i + 1)) = some rest ∧ as ++ rest = es,
      fun H' ⟨a, b⟩ => ⟨ds.length - (i + 1), by omega, rfl, a, b⟩, fun x H2 y => ?_⟩
    obtain ⟨F2, p2, rx⟩ := hJ.yl i F H x H2 d x1 p1.fh hd y
    have S2 := S1.step p2
    have go2 : (match t d (wipeT τ vs) with
      | none => none
      | some τ1 => match cond τ1 with
        | some (.ok r) => (match asB r with
          | some true => (match body τ1 with
            | some (.ok r) => (match compGo t cond body (wipeT τ vs) (ds.drop (i + 1)) with
              | some ds => some (r.d :: ds)
              | none => none)
            | _ => none)
          | some false => compGo t cond body (wipeT τ vs) (ds.drop (i + 1))
          | none => none)
        | _ => none) = some rest := go
    cases et : t d (wipeT τ vs) with
    | none => rw [et] at go2; cases go2
    | some τ1 =>
      rw [et] at go2
      have go3 : (match cond τ1 with
        | some (.ok r) => (match asB r with
          | some true => (match body τ1 with
            | some (.ok r) => (match compGo t cond body (wipeT τ vs) (ds.drop (i + 1)) with
              | some ds => some (r.d :: ds)
              | none => none)
            | _ => none)
          | some false => compGo t cond body (wipeT τ vs) (ds.drop (i + 1))
          | none => none)
        | _ => none) = some rest := go2
      refine hT x d H0 F0 F2 H2 _ _ τ1 S2 rx et _ fun σ3 S3 hw => ⟨?_, htt _ _ _ ⟨H0, F0, F2, τ1, S3, ?_⟩⟩
      · rw [hw vs hjs]
        exact wipe_wipe vs vs fun j hj => hj
      have p12 := p1.trans p2
      have eL2 : H2 L = some (.lst acc) := p2.hh _ _ eL
      cases ec : cond τ1 with
      | none => rw [ec] at go3; cases go3
      | some rc =>
        rw [ec] at go3
        cases rc with
        | ex c => cases go3
        | ok rc =>
          have go4 : (match asB rc with
            | some true => (match body τ1 with
              | some (.ok r) => (match compGo t cond body (wipeT τ vs) (ds.drop (i + 1)) with
                | some ds => some (r.d :: ds)
                | none => none)
              | _ => none)
            | some false => compGo t cond body (wipeT τ vs) (ds.drop (i + 1))
            | none => none) = some rest := go3
          show (match asB rc with
            | some b => ∀ F' H', Pst F2 H2 F' H' → _
            | none => False)
          cases eb : asB rc with
          | none => rw [eb] at go4; cases go4
          | some bb =>
            rw [eb] at go4
            intro F3 H3 p3
            have p13 := p12.trans p3
            have S13 := S2.step p3
            have fL3 : F3 L = none := p3.out (p2.out fL eL) eL2
            have eL3 : H3 L = some (.lst acc) := p3.hh _ _ eL2
            cases bb with
            | false =>
              rw [if_neg Bool.false_ne_true]
              exact ⟨hlt, F3, acc, as, rest, p13.ff, p13, S13, fL3, eL3, ra.mono (p2.ff.trans p3.ff), by omega, go4, ee⟩
            | true =>
              rw [if_pos rfl]
              have go5 : (match body τ1 with
                | some (.ok r) => (match compGo t cond body (wipeT τ vs) (ds.drop (i + 1)) with
                  | some ds => some (r.d :: ds)
                  | none => none)
                | _ => none) = some rest := go4
              refine hte _ _ _ ⟨H0, F0, F3, τ1, S3.step p3, ?_⟩
              cases ebd : body τ1 with
              | none => rw [ebd] at go5; cases go5
              | some r =>
                rw [ebd] at go5
                cases r with
                | ex c => cases go5
                | ok r =>
                  have go6 : (match compGo t cond body (wipeT τ vs) (ds.drop (i + 1)) with
                    | some ds => some (r.d :: ds)
                    | none => none) = some rest := go5
                  cases er : compGo t cond body (wipeT τ vs) (ds.drop (i + 1)) with
                  | none => rw [er] at go6; cases go6
                  | some rest' =>
                    rw [er] at go6
                    cases go6
                    intro yv F4 H4 p4 ry
                    obtain ⟨F5, p5, x5, r5⟩ := ry.frz p4
                    have eL4 : H4 L = some (.lst acc) := p4.hh _ _ eL3
                    have fL5 : F5 L = none := p5.out fL3 eL3
                    have p15 := p13.trans p5
                    refine ⟨acc, eL4, by rw [← line_eq]; omega, hlt, F5, acc ++ [yv], as ++ [r.d], rest', p15.ff, ⟨fun a o q => ?_, p15.ff, p15.nw, ex_mut p15.fh fL5⟩, (S13.step p5).heapD fL5 h0L noL, fL5, upd_same, (ra.mono (p2.ff.trans (p3.ff.trans p5.ff))).append (.cons r5 .nil), ?_, rfl, ?_⟩
                    · rw [upd_ne (ne_of_none q hL)]
                      exact p15.hh a o q
                    · rw [List.length_append]
                      show acc.length + 1 ≤ i + 1
                      omega
                    · rw [List.append_assoc]
                      exact ee
  · have e : i = ds.length := by omega
    subst e
    rw [List.drop_length] at go
    have go' : some ([] : List D) = some rest := go
    cases go'
    rw [List.append_nil] at ee
    subst ee
    exact .inl ⟨hJ.stop _ F H x1 p1.fh rfl, hQ _ F H p1 ⟨L, acc, rfl, hL, fL, eL, ra⟩⟩
theorem comp_end {src : Src} {t : Tgt} {js vs : List Nat} {gg : TG} {cond body : ExF} {tt : TT} {te : TE} (hT : TgS X.K gg t js) (hjs : ∀ j ∈ js, j ∈ vs) (htt : ∀ σ H Q, tT X.K Wn cond σ H Q → tt σ H Q) (hte : ∀ σ H Q, tE X.K Wn body σ H Q → te σ H Q)
    {σ : L2.St} {H : Hp} {Q : VK} (h : tE X.K W (eComp src t vs cond body) σ H Q) : tLc (tI X.K W src) gg tt te vs σ H Q := by
  obtain ⟨H0, F0, F, τ, S, h⟩ := h
  refine ⟨H0, F0, F, τ, S, ?_⟩
  have h1 : EndE X.K W F σ H Q (ab (src τ) fun ds => match compGo t cond body (wipeT τ vs) ds with
    | some es => if ds.length ≤ Pv.line then some (.ok (.own es)) else none
    | none => none) := h
  cases q : src τ with
  | none => rw [q] at h1; exact h1
  | some r =>
    rw [q] at h1
    cases r with
    | ex c => exact h1
    | ok ds =>
      have h2 : EndE X.K W F σ H Q (match compGo t cond body (wipeT τ vs) ds with
        | some es => if ds.length ≤ Pv.line then some (.ok (.own es)) else none
        | none => none) := h1
      cases e : compGo t cond body (wipeT τ vs) ds with
      | none => rw [e] at h2; exact h2.elim
      | some es =>
        rw [e] at h2
        have h3 : EndE X.K W F σ H Q (if ds.length ≤ Pv.line then some (.ok (.own es)) else none) := h2
        by_cases z : ds.length ≤ Pv.line
        · rw [if_pos z] at h3
          intro J F1 H1 p1 hJ L hL
          exact comp_core (S.step p1) hJ hT hjs htt hte e z hL fun v F' H' p r => h3 v F' H' (p1.trans p) (r.back p1.hh)
        · rw [if_neg z] at h3
          exact h3.elim
end

/-! ### defs -/
theorem start_stt {K : PySem.W.Frag} {F H : Hp} {N : List Str} {vs : List V} {ds : List D} (e : Ex F H) (r : Reps K F vs ds) : Stt K H F F (ds.map Sl.va ++ List.replicate (N.length - ds.length) Sl.un) (L2.start N vs) H := by
  have hl := r.length
  have noO : ∀ {i : Nat} {b : Bool} {zs : List D}, (ds.map Sl.va ++ List.replicate (N.length - ds.length) Sl.un)[i]? = some (Sl.ow b zs) → False := fun {i b zs} q => by
    by_cases hi : i < ds.length
    · rw [List.getElem?_append_left (by simpa using hi), List.getElem?_map] at q
      cases w : ds[i]? with
      | none => rw [w] at q; cases q
      | some d => rw [w] at q; cases q
    · rw [List.getElem?_append_right (by simpa using Nat.le_of_not_lt hi), List.getElem?_replicate] at q
      split at q <;> cases q
  refine ⟨Pst.refl e, ?_, fun i d q => ?_, fun i b zs q => (noO q).elim, fun i j b c zs ws l q _ _ _ => (noO q).elim⟩
  · unfold L2.start
    rw [List.length_append, List.length_append, List.length_map, List.length_map, List.length_replicate, List.length_replicate, hl]
  · by_cases hi : i < ds.length
    · rw [List.getElem?_append_left (by simpa using hi), List.getElem?_map] at q
      cases w : ds[i]? with
      | none => rw [w] at q; cases q
      | some d' =>
        rw [w] at q
        cases q
        obtain ⟨v, ev, rv⟩ := r.get w
        refine ⟨v, ?_, rv⟩
        unfold L2.start
        rw [List.getElem?_append_left (by rw [List.length_map]; omega), List.getElem?_map, ev]
        rfl
    · rw [List.getElem?_append_right (by simpa using Nat.le_of_not_lt hi), List.getElem?_replicate] at q
      split at q <;> cases q
section
variable {P : Program} {w : World} {K : PySem.W.Frag} {mg : Str → Option Value} {base : Heap}
/-- a def by its body's rule -/
theorem fn_mk {x qual : Str} {params : Arguments} {body : List Stmt} {scope : Scope} {f : Addr} {fd : FuncData} {N ps : List Str} {k : Nat} {s : StF} (F : FunD K x qual params body scope [] [] f fd) (S : FnScope N ps scope)
    (hb : ∀ (cdv : Value) (A : Around) (outer : List Env) (s0 : Shared) (H : Hp) (E : XK), Room k (A.deeper (envOfC qual scope s0.heap.objs.size f cdv)) →
      L2N.Takes (cxOf (L2N.CX P w) P w K mg base N qual scope f cdv A outer s0 H E) (fun cls d _ H => E cls d H) → PassesOwn (model P w) (A.deeper (envOfC qual scope s0.heap.objs.size f cdv)) (envOfC qual scope s0.heap.objs.size f cdv) (cxOf (L2N.CX P w) P w K mg base N qual scope f cdv A outer s0 H E).xe →
      SB (cxOf (L2N.CX P w) P w K mg base N qual scope f cdv A outer s0 H E) (fun cls d _ H => E cls d H) body s) :
    FnOk P w K mg base (L2N.CX P w) (k + 1) f fd ps (spG K ps.length (fnRun ps.length N.length s)) := by
  refine F.ok S (fun vs H Q E h => h.1) (fun cdv A outer s0 H vs Q E hr h => ⟨_, hb cdv A outer s0 H E hr (L2N.takes_of rfl rfl rfl rfl) (passes_of rfl), ?_⟩)
  obtain ⟨hl, F0, ds, e, r, h⟩ := h
  have hd : ds.length = ps.length := by rw [← r.length]; exact hl
  refine ⟨H, F0, F0, ds.map Sl.va ++ List.replicate (N.length - ps.length) Sl.un, ?_, ?_⟩
  · rw [← hd]
    exact start_stt e r
  · unfold fnRun at h
    rw [if_pos hd] at h
    cases z : s (ds.map Sl.va ++ List.replicate (N.length - ps.length) Sl.un) with
    | none => rw [z] at h; exact h
    | some r =>
      rw [z] at h
      cases r with
      | nx τ' => exact fun σ' F' H' x S' => h .non F' H' S'.pst .non
      | bk τ' => exact h.elim
      | ct τ' => exact h.elim
      | rt r => exact h
      | ex c τ' => exact fun σ' F' H' x S' => h F' H' S'.pst
end
end Pw
set_option Elab.async false
set_option linter.all false
set_option maxRecDepth 100000
set_option maxHeartbeats 2000000
/-! I7: comprehensions as expressions and as stores, unpacking, texts, f-strings, try. -/
namespace Pv
open PySem
/-- a, b, c = a tuple of three -/
def tg3 (i j k : Nat) : Tgt := fun d τ => match d with
  | .tup [a, b, c] => some (((τ.set i (.va a)).set j (.va b)).set k (.va c))
  | _ => none
def sUnp (t : Tgt) (f : ExF) : StF := fun τ => sd (f τ) τ fun r => match t r.d τ with
  | some τ' => some (.nx τ')
  | none => none
/-- the place of a slice's end -/
def sIx (len other : Nat) : Option Int → Nat
  | none => other
  | some i => if i < 0 then (i + (len : Int)).toNat else min i.toNat len
def cutL {α : Type} (xs : List α) (lo hi : Option Int) : List α := (xs.drop (sIx xs.length 0 lo)).take (sIx xs.length xs.length hi - sIx xs.length 0 lo)
def oSlc (d : D) (lo hi : Option Int) : Option R := match d with
  | .str x => if x.length ≤ line then some (.v (.str ⟨(cutL x.cps.toList lo hi).toArray⟩)) else none
  | .lst xs => some (.own (cutL xs lo hi))
  | _ => none
def eSlc (f : ExF) (lo hi : Option Int) : ExF := fun τ => bd (f τ) fun a => okR (oSlc a.d lo hi)
/-- the first place of c -/
def part1 (c : Nat) : List Nat → List Nat → Option (List Nat × List Nat)
  | _, [] => none
  | acc, x :: xs => if x = c then some (acc, xs) else part1 c (acc ++ [x]) xs
def bPart (c : Nat) : D → Option R
  | .str x => if x.length ≤ line then some (.v (match part1 c [] x.cps.toList with
    | some (a, b) => .tup [.str ⟨a.toArray⟩, .str ⟨#[c]⟩, .str ⟨b.toArray⟩]
    | none => .tup [.str x, .str Str.empty, .str Str.empty])) else none
  | _ => none
/-- f"{..}": an int or a text, as a text -/
def fmt1 : D → Option Str
  | .str y => if y.length ≤ line then some y else none
  | .int i => if i.natAbs.log2 < 1920 then some (toString i : String) else none
  | _ => none
/-- a part of an f-string: a text, or an expression -/
inductive Fp where
  | txt (x : Str)
  | ex (f : ExF)
def fGo : List Fp → Str → Ev → Option Res
  | [], acc, _ => okD (.str acc)
  | .txt x :: ps, acc, τ => if (acc ++ x).length ≤ line then fGo ps (acc ++ x) τ else none
  | .ex f :: ps, acc, τ => bd (f τ) fun r => match fmt1 r.d with
    | some y => if (acc ++ y).length ≤ line then fGo ps (acc ++ y) τ else none
    | none => none
def eFstr (ps : List Fp) : ExF := fun τ => fGo ps Str.empty τ
/-- int(text) -/
def bIntT : D → Option R
  | .str x => if x.length ≤ 640 then (PySem.intText? x).map fun n => .v (.int n) else none
  | _ => none
end Pv
namespace Pw
open PySem PySem.Spec PyProof.Rows L2 Pv
section
variable {X : Cx} {W : WX} {e a b c tg iter elt : Expr} {f g h : ExF} {pos : Pos} {st : Stmt}
theorem PTs.imp {ifs : List Expr} {t t' : TT} (h : PTs X ifs t) (k : ∀ σ H Q, t' σ H Q → t σ H Q) : PTs X ifs t' := ⟨fun pins s σ H Q I q => h.run pins s σ H Q I (k σ H Q q)⟩
theorem ts_nil : PTs X [] (tT X.K Wn yes) := PTs.imp pts_nil fun σ H Q ⟨H0, F0, F, τ, S, h⟩ => h F H (Pst.refl S.pst.fh)
theorem ts_one (hc : ST X Wn c f) : PTs X [c] (tT X.K Wn f) := pts_one hc
theorem se_comp {ifs : List Expr} {scope : Scope} {own : List (Str × Nat)} {src : Src} {t : Tgt} {js : List Nat} {gg : TG} {cond body : ExF} (hc : X.calm = true) (hN : X.N.Nodup) (hi : SI X W tg iter src) (ok : BlkOk X.N X.env.scope scope own)
    (hg : ∀ (s : Shared) (H : Hp) (C : Addr) (cl : List (Str × Addr)) (fp : List Addr), PG (X.blk s H scope (compEnvC scope cl C X.env) fp) tg gg) (hT : TgS X.K gg t js) (hjs : ∀ j ∈ js, j ∈ own.map (·.2))
    (ht : ∀ (s : Shared) (H : Hp) (C : Addr) (cl : List (Str × Addr)) (fp : List Addr), PTs (X.blk s H scope (compEnvC scope cl C X.env) fp) ifs (tT X.K Wn cond))
    (he : ∀ (s : Shared) (H : Hp) (C : Addr) (cl : List (Str × Addr)) (fp : List Addr), SE (X.blk s H scope (compEnvC scope cl C X.env) fp) Wn elt body) (hs : ∀ x, foldedSetIterable iter X.env x = pure x := by intro _; rfl) :
    SE X W (.ListComp elt [⟨tg, iter, ifs, 0⟩] scope pos) (eComp src t (own.map (·.2)) cond body) :=
  PE.imp (pe_lc hc hN hi ok hg ht he hs) fun σ H Q h => comp_end hT hjs (fun _ _ _ z => z) (fun _ _ _ z => z) h
theorem ss_setC {ifs : List Expr} {scope : Scope} {own : List (Str × Nat)} {src : Src} {t : Tgt} {js : List Nat} {gg : TG} {cond body : ExF} {i : Nat} {y : Str} {py spos : Pos} (hc : X.calm = true) (hN : X.N.Nodup) (hy : X.N[i]? = some y) (hyl : X.env.scope.names.lookup y = some .local)
    (hsw : swapsWith (.ListComp elt [⟨tg, iter, ifs, 0⟩] scope pos) (some (.Name y py)) spos.line X.env = pure true) (hi : SI X W tg iter src) (ok : BlkOk X.N X.env.scope scope own)
    (hg : ∀ (s : Shared) (H : Hp) (C : Addr) (cl : List (Str × Addr)) (fp : List Addr), PG (X.blk s H scope (compEnvC scope cl C X.env) fp) tg gg) (hT : TgS X.K gg t js) (hjs : ∀ j ∈ js, j ∈ own.map (·.2))
    (ht : ∀ (s : Shared) (H : Hp) (C : Addr) (cl : List (Str × Addr)) (fp : List Addr), PTs (X.blk s H scope (compEnvC scope cl C X.env) fp) ifs (tT X.K Wn cond))
    (he : ∀ (s : Shared) (H : Hp) (C : Addr) (cl : List (Str × Addr)) (fp : List Addr), SE (X.blk s H scope (compEnvC scope cl C X.env) fp) Wn elt body) (hs : ∀ x, foldedSetIterable iter X.env x = pure x := by intro _; rfl) :
    SS X W (.Assign [.Name y py] (.ListComp elt [⟨tg, iter, ifs, 0⟩] scope pos) spos) (sAsg i (eComp src t (own.map (·.2)) cond body)) :=
  PS.imp (ps_setLc hc hN hy hyl hsw hi ok hg ht he hs) fun D σ H h => comp_end (Q := fun x H1 => gName i x σ H1 D.nx) hT hjs (fun _ _ _ z => z) (fun _ _ _ z => z) (asg_end h)

/-! ### unpacking -/
theorem tgs_3 {K : PySem.W.Frag} {i j k : Nat} : TgS K (gTup K 3 (gCons (gName i) (gCons (gName j) (gCons (gName k) gNil)))) (tg3 i j k) [i, j, k] := fun v d H0 F0 F H σ τ τ' S r e Q q => by
  cases r with
  | @tup a xs ds h1 h2 =>
    cases h2 with
    | nil => cases e
    | cons r1 h2 =>
      cases h2 with
      | nil => cases e
      | cons r2 h2 =>
        cases h2 with
        | nil => cases e
        | cons r3 h2 =>
          cases h2 with
          | cons r4 h2 => cases e
          | nil =>
            cases e
            refine ⟨a, _, rfl, S.pst.fh.st h1, rfl, _, _, rfl, _, _, rfl, _, _, rfl, rfl, q _ (((S.setV r1).setV r2).setV r3) fun vs h => ?_⟩
            rw [wipe_set (h k (by simp)), wipe_set (h j (by simp)), wipe_set (h i (by simp))]
  | _ => cases e
theorem ss_unp {t : Tgt} {js : List Nat} {gg : TG} (hp : PS X st (tAsg (tE X.K W f) gg)) (hT : TgS X.K gg t js) : SS X W st (sUnp t f) := PS.imp hp fun D σ H ⟨H0, F0, F, τ, S, h⟩ => by
  refine ⟨H0, F0, F, τ, S, EndE.mono (EndS.seq S h) fun v H1 ⟨r, F1, p1, r1, _, h1⟩ => ?_⟩
  obtain ⟨F2, p2, x2, r2⟩ := r1.frz p1
  cases e : t r.d τ with
  | none => rw [e] at h1; exact h1.elim
  | some τ' =>
    rw [e] at h1
    exact hT v r.d H0 F0 F2 H1 σ τ τ' (S.step p2) r2 e _ fun σ' S' _ => h1 σ' F2 H1 x2 S'

/-! ### slices -/
theorem sIx_eq (n d : Nat) (o : Option Int) : HT.sIx n d o = Pv.sIx n d o := by cases o <;> rfl
theorem cutV_cut (xs : List V) (lo hi : Option Int) : cutV xs lo hi = cutL xs lo hi := by
  unfold cutV cutL
  rw [sIx_eq, sIx_eq]
theorem cutS_cut (z : Str) (lo hi : Option Int) : cutS z lo hi = ⟨(cutL z.cps.toList lo hi).toArray⟩ := by
  unfold cutS cutL
  rw [sIx_eq, sIx_eq]
  rfl
theorem Reps.drop {K : PySem.W.Frag} {F : Hp} : ∀ {vs : List V} {ds : List D} (n : Nat), Reps K F vs ds → Reps K F (vs.drop n) (ds.drop n)
  | _, _, 0, r => r
  | _, _, _ + 1, .nil => .nil
  | _, _, n + 1, .cons _ t => Reps.drop n t
theorem Reps.take {K : PySem.W.Frag} {F : Hp} : ∀ {vs : List V} {ds : List D} (n : Nat), Reps K F vs ds → Reps K F (vs.take n) (ds.take n)
  | _, _, 0, _ => .nil
  | _, _, _ + 1, .nil => .nil
  | _, _, n + 1, .cons r t => .cons r (Reps.take n t)
theorem Reps.cut {K : PySem.W.Frag} {F : Hp} {vs : List V} {ds : List D} (lo hi : Option Int) (r : Reps K F vs ds) : Reps K F (cutL vs lo hi) (cutL ds lo hi) := by
  unfold cutL
  rw [r.length]
  exact (r.drop _).take _
/-- both kinds of slices -/
def rSlB (K : PySem.W.Frag) : V → Option Int → Option Int → Hp → VK → Prop := fun x lo hi H Q => rSlS x lo hi H Q ∨ rSlL K x lo hi H Q
theorem sl_both : SlR X (rSlB X.K) := SlR.or sl_str sl_list
theorem se_slc {lo hi : Option Expr} {l u : Option Int} {tl th : TO} {p2 : Pos} (ha : SE X W a f) (hl : PO X lo tl) (hh : PO X hi th) (el : ∀ σ H (Q : Option Int → Hp → Prop), Q l H → tl σ H Q) (eh : ∀ σ H (Q : Option Int → Hp → Prop), Q u H → th σ H Q) :
    SE X W (.Subscript a (.Slice lo hi none p2) pos) (eSlc f l u) := PE.imp (pe_slice sl_both ha hl hh) fun σ H Q ⟨H0, F0, F, τ, S, h⟩ => by
  refine ⟨H0, F0, F, τ, S, EndE.mono (EndE.seq h) fun x H1 ⟨ra, F1, p1, r1, h1⟩ => el _ _ _ (eh _ _ _ ?_)⟩
  obtain ⟨r, e, k⟩ := okR_end h1
  cases q : ra.d with
  | str z =>
    rw [q] at r1 e
    cases r1
    have e' : (if z.length ≤ Pv.line then some (R.v (.str ⟨(cutL z.cps.toList l u).toArray⟩)) else none) = some r := e
    by_cases w : z.length ≤ Pv.line
    · rw [if_pos w] at e'
      cases e'
      refine .inl ⟨z, rfl, by rw [← line_eq]; exact w, ?_⟩
      rw [cutS_cut]
      exact k _ F1 H1 (Pst.refl p1.fh) (.str _)
    · rw [if_neg w] at e'
      cases e'
  | lst ds =>
    rw [q] at r1 e
    cases r1 with
    | @lst p xs _ e1 e2 =>
      have e' : some (R.own (cutL ds l u)) = some r := e
      cases e'
      refine .inr ⟨p, xs, rfl, SqL.of (p1.fh _ _ e1), fun n hn => ?_⟩
      rw [cutV_cut]
      exact k _ F1 _ (Pst.newH p1.fh hn) (repR_new p1.fh hn (e2.cut l u))
  | _ => rw [q] at e; cases e
theorem el_none : ∀ (σ : L2.St) (H : Hp) (Q : Option Int → Hp → Prop), Q none H → tNoPart σ H Q := fun _ _ _ q => q
theorem el_int {i : Int} : ∀ (σ : L2.St) (H : Hp) (Q : Option Int → Hp → Prop), Q (some i) H → tPart (tC (.int i)) σ H Q := fun _ _ _ q => ⟨i, rfl, q⟩

/-! ### partition, int(text) -/
theorem pre_one (c : Nat) (x : Nat) (xs : List Nat) : TL.pre [c] (x :: xs) = decide (x = c) := by
  by_cases h : x = c
  · subst h
    simp [TL.pre]
  · have h' : ¬ c = x := fun z => h z.symm
    simp [TL.pre, h, h']
theorem par_one (c : Nat) : ∀ (xs acc : List Nat), TL.par [c] acc xs = part1 c acc xs
  | [], _ => rfl
  | x :: xs, acc => by
    show (if TL.pre [c] (x :: xs) = true then some (acc, (x :: xs).drop 1) else TL.par [c] (acc ++ [x]) xs) = (if x = c then some (acc, xs) else part1 c (acc ++ [x]) xs)
    rw [pre_one, par_one c xs]
    by_cases h : x = c
    · rw [if_pos h, if_pos (decide_eq_true h)]
      rfl
    · rw [if_neg h, if_neg (by rw [decide_eq_false h]; exact Bool.false_ne_true)]
theorem se_part {o : Expr} {c k : Nat} {x : Str} {p2 apos : Pos} (hx : x = ⟨#[c]⟩) (ho : SE X W o f) (hs : starEach [.Constant (.str x) k p2] X.env = [(false, eval (.Constant (.str x) k p2) X.env)] := by rfl) (hb : attributeBase o "partition" X.env (eval o X.env) = eval o X.env := by rfl) (hl : (apos.endLine == pos.line) = true := by rfl) :
    SE X W (.Call (.Attribute o "partition" apos) [.Constant (.str x) k p2] [] pos) (eB1 (bPart c) f) := PE.imp (pe_partition ho pe_str hs hb hl) fun σ H Q ⟨H0, F0, F, τ, S, h⟩ => by
  refine ⟨H0, F0, F, τ, S, EndE.mono (EndE.seq h) fun v H1 ⟨ra, F1, p1, r1, h1⟩ => ?_⟩
  obtain ⟨r, e, q⟩ := okR_end h1
  cases w : ra.d with
  | str z =>
    rw [w] at r1 e
    cases r1
    have e' : (if z.length ≤ Pv.line then some (R.v (match part1 c [] z.cps.toList with
      | some (a, b) => .tup [.str ⟨a.toArray⟩, .str ⟨#[c]⟩, .str ⟨b.toArray⟩]
      | none => .tup [.str z, .str Str.empty, .str Str.empty])) else none) = some r := e
    by_cases y : z.length ≤ Pv.line
    · rw [if_pos y] at e'
      refine ⟨⟨z, rfl⟩, z, x, rfl, rfl, by rw [hx]; rfl, by rw [← line_eq]; exact y, fun n hn => ?_⟩
      have ep := TL.partition_par z x (by rw [hx]; exact List.cons_ne_nil _ _)
      have e3 : TL.tl x = [c] := by rw [hx]
      rw [e3, par_one] at ep
      cases eq : part1 c [] z.cps.toList with
      | none =>
        have eq' : part1 c [] (TL.tl z) = none := eq
        rw [eq'] at ep
        rw [eq] at e'
        cases e'
        rw [ep]
        exact q _ _ _ (Pst.new p1.fh hn) (repV_tup p1.fh hn (.cons (.str _) (.cons (.str _) (.cons (.str _) .nil))))
      | some ab =>
        obtain ⟨a, b⟩ := ab
        have eq' : part1 c [] (TL.tl z) = some (a, b) := eq
        rw [eq'] at ep
        rw [eq] at e'
        cases e'
        rw [ep, hx]
        exact q _ _ _ (Pst.new p1.fh hn) (repV_tup p1.fh hn (.cons (.str _) (.cons (.str _) (.cons (.str _) .nil))))
    · rw [if_neg y] at e'
      cases e'
  | _ => rw [w] at e; cases e
theorem cs_intT {K : PySem.W.Frag} : C1S K (fun xs H Q => ∃ a n, xs = [.str a] ∧ PySem.intText? a = some n ∧ a.length ≤ 640 ∧ Q (.int n) H) bIntT := fun x F H a r e ra eo Q k => by
  cases ra with
  | str z =>
    have eo' : (if z.length ≤ 640 then (PySem.intText? z).map fun n => R.v (.int n) else none) = some r := eo
    by_cases w : z.length ≤ 640
    · rw [if_pos w] at eo'
      obtain ⟨n, e1, e2⟩ := Option.map_eq_some_iff.mp eo'
      subst e2
      exact ⟨z, n, rfl, e1, w, k _ F H (Pst.refl e) (.int _)⟩
    · rw [if_neg w] at eo'
      cases eo'
  | _ => cases eo

/-! ### f-strings -/
inductive FJ (X : Cx) (W : WX) : List Expr → List Fp → Prop where
  | nil : FJ X W [] []
  | txt {x : Str} {k : Nat} {p : Pos} {es : List Expr} {ps : List Fp} (r : FJ X W es ps) : FJ X W (.Constant (.str x) k p :: es) (.txt x :: ps)
  | ex {e : Expr} {f : ExF} {p : Pos} {es : List Expr} {ps : List Fp} (h : SE X W e f) (r : FJ X W es ps) : FJ X W (.FormattedValue e (-1) none p :: es) (.ex f :: ps)
def ftE (K : PySem.W.Frag) (W : WX) : Fp → TE
  | .txt x => tC (.str x)
  | .ex f => tFmt (tE K W f)
theorem fj_pj {es : List Expr} {ps : List Fp} (h : FJ X W es ps) : PJ X es (ps.map (ftE X.K W)) := by
  induction h with
  | nil => exact .nil
  | txt r ih => exact .cons pe_str ih
  | ex h r ih => exact .cons (pe_fmt h) ih
theorem fj_end {K : PySem.W.Frag} {H0 F0 : Hp} {σ : L2.St} {τ : List Sl} {Q : VK} : ∀ (ps : List Fp) (acc : Str) {F H : Hp}, Stt K H0 F0 F τ σ H → EndE K W F σ H Q (fGo ps acc τ) → tJs (ps.map (ftE K W)) acc σ H fun out H1 => Q (.str out) H1
  | [], acc, F, H, S, h => h _ F H (Pst.refl S.pst.fh) (.str _)
  | .txt x :: ps, acc, F, H, S, h => by
    have h' : EndE K W F σ H Q (if (acc ++ x).length ≤ Pv.line then fGo ps (acc ++ x) τ else none) := h
    by_cases z : (acc ++ x).length ≤ Pv.line
    · rw [if_pos z] at h'
      exact ⟨x, rfl, by rw [← line_eq]; exact z, fj_end ps _ S h'⟩
    · rw [if_neg z] at h'
      exact h'.elim
  | .ex f :: ps, acc, F, H, S, h => by
    refine ⟨H0, F0, F, τ, S, EndE.mono (EndE.seq (k := fun r => match fmt1 r.d with
      | some y => if (acc ++ y).length ≤ Pv.line then fGo ps (acc ++ y) τ else none
      | none => none) h) fun v H1 ⟨r, F1, p1, r1, h1⟩ => ?_⟩
    have fin : ∀ y : Str, fmt1 r.d = some y → (∃ y' : Str, V.str y = .str y' ∧ (acc ++ y').length ≤ sizeLine ∧ tJs (ps.map (ftE K W)) (acc ++ y') σ H1 fun out H1 => Q (.str out) H1) := fun y ey => by
      rw [ey] at h1
      have h2 : EndE K W F1 σ H1 Q (if (acc ++ y).length ≤ Pv.line then fGo ps (acc ++ y) τ else none) := h1
      by_cases z : (acc ++ y).length ≤ Pv.line
      · rw [if_pos z] at h2
        exact ⟨y, rfl, by rw [← line_eq]; exact z, fj_end ps _ (S.step p1) h2⟩
      · rw [if_neg z] at h2
        exact h2.elim
    cases w : r.d with
    | str y =>
      rw [w] at r1
      cases r1
      by_cases z : y.length ≤ Pv.line
      · exact .inl ⟨y, rfl, by rw [← line_eq]; exact z, fin y (by rw [w]; exact if_pos z)⟩
      · have : fmt1 r.d = none := by rw [w]; exact if_neg z
        rw [this] at h1
        exact h1.elim
    | int i =>
      rw [w] at r1
      cases r1
      by_cases z : i.natAbs.log2 < 1920
      · exact .inr ⟨i, rfl, z, fin (toString i : String) (by rw [w]; exact if_pos z)⟩
      · have : fmt1 r.d = none := by rw [w]; exact if_neg z
        rw [this] at h1
        exact h1.elim
    | _ =>
      have : fmt1 r.d = none := by rw [w]; rfl
      rw [this] at h1
      exact h1.elim
theorem se_fstr {v1 v2 : Expr} {rest : List Expr} {ps : List Fp} (h : FJ X W (v1 :: v2 :: rest) ps) : SE X W (.JoinedStr (v1 :: v2 :: rest) pos) (eFstr ps) := PE.imp (pe_joined (fj_pj h)) fun σ H Q ⟨H0, F0, F, τ, S, h⟩ => fj_end ps _ S h
end

end Pw
set_option Elab.async false
set_option linter.all false
set_option maxRecDepth 100000
set_option maxHeartbeats 2000000
/-! I8: products of texts and lists with ints; names of the module. -/
namespace Pv
open PySem
def repS (x : Str) (n : Nat) : Str := ⟨((List.replicate n x.cps.toList).flatten).toArray⟩
def oMulV : D → D → Option R
  | .int i, .int j => if mulOk i j then some (.v (.int (i * j))) else none
  | .str x, .int k => if 1 ≤ k ∧ k ≤ 1000000 ∧ x.length * k.toNat ≤ line then some (.v (.str (repS x k.toNat))) else none
  | .lst xs, .int k => if -1000000 ≤ k ∧ k ≤ 1000000 ∧ xs.length * k.toNat ≤ line then some (.own ((List.replicate k.toNat xs).flatten)) else none
  | _, _ => none
end Pv
namespace Pw
open PySem PySem.Spec PyProof.Rows L2 Pv
theorem foldl_app (a : Array Nat) : ∀ (n : Nat) (acc : Array Nat), (List.replicate n a).foldl (· ++ ·) acc = ⟨acc.toList ++ (List.replicate n a.toList).flatten⟩
  | 0, acc => by simp
  | n + 1, acc => by
    rw [List.replicate_succ, List.foldl_cons, foldl_app a n, List.replicate_succ, List.flatten_cons, Array.toList_append, List.append_assoc]
section
variable {X : Cx} {K : PySem.W.Frag}
def rMulS : R2 := fun x y H Q => ∃ s i, x = .str s ∧ y = .int i ∧ (1 ≤ i ∧ i ≤ 1000000 ∧ s.length * i.toNat ≤ Pv.line) ∧ Q (.str (repS s i.toNat)) H
theorem op_mulS : OpR X (binaryOp .Mult) rMulS := by
  intro pins s σ H x y v u Q I rx ry h
  obtain ⟨x, i, rfl, rfl, ⟨h1, h2, h3⟩, q⟩ := h
  obtain ⟨t, rfl⟩ := rx
  obtain ⟨t', rfl⟩ := ry
  have hz : x.length * i.toNat ≤ sizeLine := by rw [← line_eq]; exact h3
  have hn : ¬ i < 1 := by omega
  refine PySem.P.mul_str ?_ (fun _ _ => ?_) (fun _ _ => ?_) ?_
  · have a : ¬ i < -(2 ^ 63 : Int) := by omega
    have b : ¬ i ≥ 2 ^ 63 := by omega
    rw [decide_eq_false a, decide_eq_false b]
    rfl
  · intro hgt
    have hl : (x.length : Int) ≤ 16777216 := by
      have : x.length * 1 ≤ x.length * i.toNat := Nat.mul_le_mul_left _ (by omega)
      have e : (Pv.line : Nat) = 16777216 := rfl
      omega
    have hd : (9223372036854 : Int) ≤ (2 ^ 63 - 1) / i := by
      rw [Int.le_ediv_iff_mul_le (by omega)]
      omega
    omega
  · show decide (x.length * i.toNat > sizeLine) = false
    exact decide_eq_false (by omega)
  · rw [if_neg hn]
    have e : (⟨(List.replicate i.toNat x.cps).foldl (· ++ ·) #[]⟩ : Str) = repS x i.toNat := by
      unfold repS
      rw [foldl_app]
      rfl
    have hlen : (repS x i.toNat).length = i.toNat * x.length := by
      show ((List.replicate i.toNat x.cps.toList).flatten).toArray.size = _
      rw [List.size_toArray, List.length_flatten, List.map_replicate, List.sum_replicate_nat]
      rfl
    by_cases c : (i == 1 || x.length == 0) = true
    · rw [if_pos c]
      have e2 : repS x i.toNat = x := by
        rcases Bool.or_eq_true_iff.mp c with c | c
        · have : i = 1 := by simpa using c
          subst this
          unfold repS
          obtain ⟨⟨l⟩⟩ := x
          simp
        · have : x.length = 0 := by simpa using c
          obtain ⟨⟨l⟩⟩ := x
          have : l = [] := List.length_eq_zero_iff.mp this
          subst this
          unfold repS
          simp
      rw [e2] at q
      exact ⟨.str x, H, I, ⟨t, rfl⟩, q⟩
    · rw [if_neg c, e]
      exact ⟨by rw [hlen, Nat.mul_comm]; exact hz, .str _, H, I.tok _, ⟨_, rfl⟩, q⟩
def rMulV : R2 := fun x y H Q => rI CMulW (fun i j => .int (i * j)) x y H Q ∨ rMulS x y H Q ∨ rRep x y H Q
theorem op_mulV : OpR X (binaryOp .Mult) rMulV := OpR.or op_mulW (OpR.or op_mulS op_rep)
theorem reps_rep {F : Hp} {xs : List V} {ds : List D} (r : Reps K F xs ds) : ∀ n : Nat, Reps K F (List.replicate n xs).flatten (List.replicate n ds).flatten
  | 0 => .nil
  | n + 1 => by
    rw [List.replicate_succ, List.replicate_succ, List.flatten_cons, List.flatten_cons]
    exact r.append (reps_rep r n)
theorem os_mulV : OpS K rMulV oMulV := fun x y F H a b r e ra rb eo Q k => by
  cases rb with
  | int j =>
    cases ra with
    | int i =>
      have eo' : (if mulOk i j = true then some (R.v (.int (i * j))) else none) = some r := eo
      by_cases z : mulOk i j = true
      · rw [if_pos z] at eo'
        cases eo'
        exact .inl ⟨i, j, rfl, rfl, show CMulW i j from of_decide_eq_true (p := i.natAbs.log2 + j.natAbs.log2 < 1000000) z, k _ F H (Pst.refl e) (.int _)⟩
      · rw [if_neg z] at eo'
        cases eo'
    | str s =>
      have eo' : (if 1 ≤ j ∧ j ≤ 1000000 ∧ s.length * j.toNat ≤ Pv.line then some (R.v (.str (repS s j.toNat))) else none) = some r := eo
      by_cases z : 1 ≤ j ∧ j ≤ 1000000 ∧ s.length * j.toNat ≤ Pv.line
      · rw [if_pos z] at eo'
        cases eo'
        exact .inr (.inl ⟨s, j, rfl, rfl, z, k _ F H (Pst.refl e) (.str _)⟩)
      · rw [if_neg z] at eo'
        cases eo'
    | @lst p xs ds h1 h2 =>
      have eo' : (if -1000000 ≤ j ∧ j ≤ 1000000 ∧ ds.length * j.toNat ≤ Pv.line then some (R.own ((List.replicate j.toNat ds).flatten)) else none) = some r := eo
      by_cases z : -1000000 ≤ j ∧ j ≤ 1000000 ∧ ds.length * j.toNat ≤ Pv.line
      · rw [if_pos z] at eo'
        cases eo'
        refine .inr (.inr ⟨p, j, xs, rfl, rfl, e _ _ h1, by omega, by omega, by rw [h2.length, ← line_eq]; exact z.2.2, fun l hl => k _ F _ (Pst.newH e hl) (repR_new e hl (reps_rep h2 _))⟩)
      · rw [if_neg z] at eo'
        cases eo'
    | _ => cases eo
  | _ => cases ra <;> cases eo
theorem cs_lcm : C2S K rLcm (fun a b => match a, b with
    | .int i, .int j => if lcmOk i j = true then some (.v (.int (Int.lcm i j))) else none
    | _, _ => none) := fun x y F H a b r e ra rb eo Q k => by
  cases ra with
  | int i =>
    cases rb with
    | int j =>
      have eo' : (if lcmOk i j = true then some (R.v (.int (Int.lcm i j))) else none) = some r := eo
      by_cases z : lcmOk i j = true
      · rw [if_pos z] at eo'
        cases eo'
        exact ⟨i, j, rfl, z, k _ F H (Pst.refl e) (.int _)⟩
      · rw [if_neg z] at eo'
        cases eo'
    | _ => cases eo
  | _ => cases eo
def oLcm' (a b : D) : Option R := match a, b with
    | .int i, .int j => if lcmOk i j = true then some (.v (.int (Int.lcm i j))) else none
    | _, _ => none
theorem cs_lcm' : C2S K rLcm oLcm' := cs_lcm
end
end Pw
set_option Elab.async false
set_option linter.all false
set_option maxRecDepth 100000
set_option maxHeartbeats 2000000
/-! I9: names of the module; suites of an exception; comprehensions over a range in such a suite. -/
namespace Pv
open PySem
/-- isinstance(e, C), e in slot i, the exception at a -/
def eExc (i a : Nat) (b : Bool) : ExF := fun τ => match τ.getD i .un with
  | .va (.adr a') => if a' = a then okD (.bl b) else none
  | _ => none
def wipeFl (i : Nat) : Option Fl → Option Fl
  | some (.nx τ) => some (.nx (τ.set i .un))
  | some (.bk τ) => some (.bk (τ.set i .un))
  | some (.ct τ) => some (.ct (τ.set i .un))
  | some (.rt r) => some (.rt r)
  | _ => none
open Classical in
/-- what does not lean on the address -/
noncomputable def uni (f : Nat → Option Fl) : Option Fl := if ∀ a, f a = f 0 then f 0 else none
theorem uni_eq {f : Nat → Option Fl} {r : Option Fl} (h : ∀ a, f a = r) : uni f = r := by
  unfold uni
  rw [if_pos fun a => (h a).trans (h 0).symm]
  exact h 0
/-- try: body except C as e: suite -/
noncomputable def sTryS (i : Nat) (body : StF) (bt : Str → Option Bool) (q : Str → Nat → StF) : StF := fun τ => match body τ with
  | some (.ex c τ') => (match bt c with
    | some true => uni fun a => wipeFl i (q c a (τ'.set i (.va (.adr a))))
    | some false => some (.ex c τ')
    | none => none)
  | o => o
end Pv
namespace Pw
open PySem PySem.Spec PyProof.Rows L2 Pv
theorem units65 {k : Nat} {A : Around} (r : Room k A) : A.units + 65 < cLine := by have := r.un; omega
section
variable {X : Cx} {W : WX}
theorem se_gstr {x z : Str} {p : Pos} (hg : Gl X x) (hm : ∃ t, X.mg x = some (.str z t)) (hd : (x == ("__debug__" : Str)) = false := by decide) : SE X W (.Name x p) (eC (.str z)) := by
  obtain ⟨t, h⟩ := hm
  exact se_c (pe_glob (v := .str z) hg h ⟨t, rfl⟩ hd) fun _ => .str z
theorem se_gint {x : Str} {z : Int} {p : Pos} (hg : Gl X x) (hm : ∃ t, X.mg x = some (.int z t)) (hd : (x == ("__debug__" : Str)) = false := by decide) : SE X W (.Name x p) (eC (.int z)) := by
  obtain ⟨t, h⟩ := hm
  exact se_c (pe_glob (v := .int z) hg h ⟨t, rfl⟩ hd) fun _ => .int z
/-- no exception at all -/
theorem takesN {X : Cx} : L2N.Takes X Wn := fun _ _ x => by
  obtain ⟨_, _, _, _, _, _, _, _, _, _, _, _, _, _, _, _, none⟩ := x
  exact none.elim
/-- isinstance(e, C) -/
theorem se_exc {i a : Nat} {cn n : Str} {p p1 pos : Pos} {c : Expr} {cV : V} {cval : Value} {b : Bool} {oe : Obj} {pn : List (Addr × Obj)} (C : ExcC X.K (He.ga X.K cn)) (hz : L2N.Zn (cv X.K cn) none oe) (hf : ∃ vs, oe.data = .fields vs)
    (hk : PySem.W.kitOne X.K (cv X.K cn) cval = some b) (hg : Gl X "isinstance") (hm : X.mg "isinstance" = none) (hN : X.N[i]? = some n) (hv : Vis X.env.scope n)
    (hc : PE (X.suite a ((a, oe) :: pn)) c (tC cV)) (hcv : ∀ u, RelV cV u → u = cval)
    (hd : (n == ("__debug__" : Str)) = false := by decide) (hcd : (n == ("__classdict__" : Str)) = false := by decide)
    (h1 : starEach ((.Name n p1) :: [c]) X.env = (false, eval (.Name n p1) X.env) :: starEach [c] X.env := by rfl) (h2 : starEach (c :: []) X.env = (false, eval c X.env) :: starEach [] X.env := by rfl)
    (hpl : (backTo pos (starEach [c] X.env)).any (·.1) = false := by rfl) :
    SE (X.suite a ((a, oe) :: pn)) W (.Call (.Name "isinstance" p) [.Name n p1, c] [] pos) (eExc i a b) :=
  PE.imp (pe_callB (X := X.suite a ((a, oe) :: pn)) (call_isE C hz.zc hf) hg hm (by decide +kernel) (pa_cons (pe_var (i := i) hN hv hd hcd) (pa_cons hc pa_nil h2) h1) (he := h1) (hpl := hpl)) fun σ H Q ⟨H0, F0, F, τ, S, h⟩ => by
    unfold eExc at h
    split at h
    · rename_i a' q
      obtain ⟨v, e1, r⟩ := S.val i _ (getD_some q (by intro z; cases z))
      by_cases z : a' = a
      · rw [if_pos z] at h
        subst z
        cases r
        exact ⟨_, e1, cV, cval, b, rfl, hcv, hk, h (.bl b) F H (Pst.refl S.pst.fh) (.bl b)⟩
      · rw [if_neg z] at h
        exact h.elim
    · exact h.elim
/-- try: body except C as e: suite -/
theorem ss_trys {i : Nat} {n cx : Str} {c : Value} {body suite : List Stmt} {b₀ : Stmt} {np p2 pos : Pos} {s : StF} {bt : Str → Option Bool} {q : Str → Nat → StF} (hs : X.stack = X.env :: X.outer) (hf : X.env.frame = some X.env.locals) (hN : X.N.Nodup) (hi : X.N[i]? = some n) (hln : X.env.kindOf n = some .local) (hc : Names X cx c) (tk : L2N.Takes X W)
    (hb : ∀ (W : WX) (pn : List (Addr × Obj)) (xe : Value → Shared → Prop), L2N.Takes (X.tr pn xe) W → PassesOwn (model X.prog X.w) X.A X.env xe → SB (X.tr pn xe) W body s)
    (hsu : ∀ (cn : Str), bt cn = some true → ∀ (a : Addr) (oe : Obj) (pn : List (Addr × Obj)), L2N.Zn (cv X.K cn) none oe → (∃ vs, oe.data = .fields vs) → SB (X.suite a ((a, oe) :: pn)) Wn (b₀ :: suite) (q cn a))
    (hbt : ∀ cn b, bt cn = some b → PySem.W.exmOne X.K (cv X.K cn) c = some b) :
    SS X W (.Try body [.ExceptHandler (some (.Name cx np)) (some n) (b₀ :: suite) p2] [] [] pos) (sTryS i s bt q) := by
  refine PS.imp (L2N.ps_try_as (ts := fun a cls d => fun D σ H => ∃ cn, cls = cv X.K cn ∧ d = none ∧ bt cn = some true ∧ tS X.K Wn (q cn a) D σ H) (tb := fun W' => tS X.K W' s) (Wout := W) hs hf hN hi hln hc tk (fun W' pn xe tk' hp' => hb W' pn xe tk' hp') fun a oe cls d pn hz hfl => ?_) fun D σ H ⟨H0, F0, F, τ, S, h⟩ => ?_
  · refine ⟨fun pins s0 σ H D I h => ?_⟩
    obtain ⟨cn, rfl, rfl, hbt', h⟩ := h
    exact (hsu cn hbt' a oe pn hz hfl).run pins s0 σ H D I h
  · refine ⟨H0, F0, F, τ, S, ?_⟩
    unfold sTryS at h
    cases e : s τ with
    | none => rw [e] at h; exact h
    | some r =>
      rw [e] at h
      cases r with
      | nx τ' => exact h
      | bk τ' => exact h
      | ct τ' => exact h
      | rt r => exact h
      | ex cn τ' =>
        intro σ' F' H' x' S'
        have h2 : EndS X.K W H0 F0 F D (match bt cn with
          | some true => uni fun a => wipeFl i (q cn a (τ'.set i (.va (.adr a))))
          | some false => some (.ex cn τ')
          | none => none) := h
        cases eb : bt cn with
        | none => rw [eb] at h2; exact h2.elim
        | some bb =>
          rw [eb] at h2
          refine ⟨bb, hbt cn bb eb, fun ebb a na => ?_, fun ebb => ?_⟩
          · subst ebb
            have h3 : EndS X.K W H0 F0 F D (uni fun a => wipeFl i (q cn a (τ'.set i (.va (.adr a))))) := h2
            refine ⟨cn, rfl, rfl, eb, H0, F0, F', τ'.set i (.va (.adr a)), S'.setV (.adr a), ?_⟩
            by_cases all : ∀ b, wipeFl i (q cn b (τ'.set i (.va (.adr b)))) = wipeFl i (q cn 0 (τ'.set i (.va (.adr 0))))
            · have e4 : (uni fun a => wipeFl i (q cn a (τ'.set i (.va (.adr a))))) = wipeFl i (q cn a (τ'.set i (.va (.adr a)))) := uni_eq fun b => (all b).trans (all a).symm
              rw [e4] at h3
              have h4 := EndS.shift h3 x'
              cases eq : q cn a (τ'.set i (.va (.adr a))) with
              | none => rw [eq] at h4; exact h4.elim
              | some fl =>
                rw [eq] at h4
                cases fl with
                | nx τ4 => exact fun σ5 F5 H5 x5 S5 => h4 _ F5 H5 x5 S5.wipe1
                | bk τ4 => exact fun σ5 F5 H5 x5 S5 => h4 _ F5 H5 x5 S5.wipe1
                | ct τ4 => exact fun σ5 F5 H5 x5 S5 => h4 _ F5 H5 x5 S5.wipe1
                | rt r => exact h4
                | ex c4 τ4 => exact h4.elim
            · unfold uni at h3
              rw [if_neg all] at h3
              exact h3.elim
          · subst ebb
            exact h2 σ' F' H' x' S'
end
end Pw
set_option Elab.async false
set_option linter.all false
set_option maxRecDepth 100000
set_option maxHeartbeats 2000000
/-! I10: a list comprehension over a range within the suite of an exception. -/
namespace Pw
open PySem PySem.Spec PyProof.Rows L2 Pv
section
variable {X : Cx}
/-- what is known of the exception p that is handled, from the outside of a block -/
structure KeptP (Y : Cx) (p : Addr × Obj) : Prop where
  hot : L2H.Hot1 Y.A p
  at0 : Y.s_0.heap.get? p.1 = some p.2
  un0 : Y.H_0 p.1 = none
  fs0 : p.1 ∉ Y.fs
  ex0 : p.1 ∉ Y.ex
  cel : ∀ v, p.2.data ≠ .cell v
  loc : p.1 ≠ Y.env.locals
/-- the block as a context that bears the exception -/
abbrev withP (Y : Cx) (p : Addr × Obj) : Cx := Y.tr (Y.pn ++ [p]) (fun _ _ => False)
section
variable {Y : Cx} {p : Addr × Obj} {τ : L2.St} {G : Hp} {t : Shared}
theorem KeptP.into (k : KeptP Y p) (J : Inv Y [] τ G t) : Inv (withP Y p) [] τ G t := by
  have at1 := J.base.keep p.1 p.2 k.at0 k.un0 k.fs0 k.ex0
  have un1 := J.base.free p.1 p.2 k.at0 k.un0 k.ex0
  refine ⟨J.ok.toTry _ _, J.os, J.bare, J.base, J.loc, J.cell, J.free, J.freeC, fun z hz => ?_, J.hok, J.len⟩
  have hz' : z ∈ Y.pn ++ [p] := by simpa using hz
  rcases List.mem_append.mp hz' with w | w
  · exact J.pin z (List.mem_append_left _ w)
  · rw [List.mem_singleton.mp w]
    exact ⟨at1, un1, k.loc, k.fs0, k.cel⟩
theorem KeptP.back (J : Inv (withP Y p) [] τ G t) (o : Y.Ok) : Inv Y [] τ G t :=
  ⟨o, J.os, J.bare, J.base, J.loc, J.cell, J.free, J.freeC, fun z hz => J.pin z (List.mem_append_left _ (List.mem_append_left _ (by simpa using hz))), J.hok, J.len⟩
theorem KeptP.bears (k : KeptP Y p) : L2H.HotC (withP Y p) := ⟨p, k.hot, List.mem_append_right _ (List.mem_singleton.mpr rfl)⟩
/-- the iterator's own objects, within the block -/
theorem own_fp {fp : List Addr} (he : Y.ex = fp) (hp : Y.pn = []) (J : Inv Y [] τ G t) (g : ∀ c ∈ fp, G c = none) : ∀ c ∈ fp, FpOk Y [] G c := fun c hc => by
  have hx : c ∈ Y.ex := he ▸ hc
  obtain ⟨l1, l2⟩ := J.ok.exf c hx
  refine ⟨g c hc, l1, J.ok.exfs c hx, .inl hx, l2, fun z hz => ?_⟩
  rw [hp] at hz
  exact absurd hz (by simp)
theorem own_fpP {fp : List Addr} (he : Y.ex = fp) (hp : Y.pn = []) (k : KeptP Y p) (J : Inv Y [] τ G t) (g : ∀ c ∈ fp, G c = none) : ∀ c ∈ fp, FpOk (withP Y p) [] G c := fun c hc => by
  obtain ⟨h1, h2, h3, h4, h5, -⟩ := own_fp he hp J g c hc
  refine ⟨h1, h2, h3, h4, h5, fun z hz e => ?_⟩
  have hz' : z ∈ Y.pn ++ [p] := by simpa using hz
  rw [hp] at hz'
  have ez : z = p := by simpa using hz'
  exact k.ex0 (by rw [he, ← ez, e]; exact hc)
end
/-- the turns of a comprehension over J, in the block Y: V by the turn, a measure and the heap -/
theorem turns {Y : Cx} {p : Addr × Obj} {fp : List Addr} {it L : Addr} {tn : Nat → Heap → Prop} {J : It} {σw : L2.St} {vs : List Nat} {elt tg iter : Expr} {ifs : List Expr} {scope : Scope} {pos : Pos} {g : TG} {tt : TT} {te : TE} {V : Nat → Nat → Hp → Prop} {Qd : Hp → Prop} {R : Result → Shared → Prop}
    (he : Y.ex = fp) (hp : Y.pn = []) (hx : Y.xe = fun _ _ => False) (k : KeptP Y p) (T : L2H.TurnH Y.prog Y.w Y.K tg J fp it tn) (pg : PG Y tg g) (pt : PTs Y ifs tt) (pe : PE Y elt te) (hw : ∀ σ2 : L2.St, wipe σ2 vs = σw → σw.length = σ2.length)
    (step : ∀ i m H, V i m H → (J.stop i H ∧ Qd H) ∨ (J.go i H ∧ ∃ Nx : Hp → Prop, (∀ H', Nx H' → ∃ m', m' < m ∧ V (i + 1) m' H') ∧ ∀ x H', J.yld i H x H' → g x σw H' fun σ2 H2 => wipe σ2 vs = σw ∧ tt σ2 H2 fun b H3 =>
      if b = true then te σ2 H3 fun y H4 => ∃ acc, H4 L = some (.lst acc) ∧ acc.length < sizeLine ∧ Nx (upd H4 L (.lst (acc ++ [y]))) else Nx H3))
    (stop : ∀ H s, Inv Y [] σw H s → Qd H → R (.ok .next) s) :
    ∀ (m : Nat) (s : Shared), (∃ i H, Inv Y [] σw H s ∧ tn i s.heap ∧ (∀ c ∈ fp, H c = none) ∧ V i m H) → codeAny (model Y.prog Y.w) Y.A (.compLoop (.ListComp elt [⟨tg, iter, ifs, 0⟩] scope pos) 0 (.ref it) (.ref L) Y.env) R s := fun m s h0 => by
  refine compLoop_any (fun m s => ∃ i H, Inv Y [] σw H s ∧ tn i s.heap ∧ (∀ c ∈ fp, H c = none) ∧ V i m H) (fun m s ⟨i, H, I, a, f, v⟩ => ?_) m h0
  have FP := own_fpP he hp k I f
  rcases step i m H v with ⟨ends, d⟩ | ⟨goes, Nx, less, body⟩
  · refine thnF (T.done (withP Y p) rfl rfl rfl k.bears i [] s σw H (fun _ _ => False) (k.into I) FP a ends) fun r s1 ⟨er, I1⟩ => ?_
    rw [er]
    exact stop H s1 (KeptP.back I1 I.ok) d
  · refine thnF (T.item (withP Y p) rfl rfl rfl k.bears i [] s σw H (fun _ _ => False) (k.into I) FP a goes) fun r s1 ⟨u, er, w1⟩ => ?_
    rw [er]
    refine thnF w1 fun _ s2 ⟨x, H2, I2P, rx, y2, a2, f2⟩ => ?_
    have I2 : Inv Y [] σw H2 s2 := KeptP.back I2P I.ok
    have I2' := I2.pinned (own_fp he hp I2 f2) (T.obj _ _ a2)
    have held : ∀ {σ3 : L2.St} {H3 : Hp} {s3 : Shared}, wipe σ3 vs = σw → Inv Y ([] ++ pinsAt fp s2.heap) σ3 H3 s3 → Nx H3 → ∃ m', m' < m ∧ ∃ i H, Inv Y [] σw H s3 ∧ tn i s3.heap ∧ (∀ c ∈ fp, H c = none) ∧ V i m' H := fun {σ3 H3 s3} w3 I3 n3 => by
      obtain ⟨m', lt, v'⟩ := less H3 n3
      have there : ∀ c ∈ fp, ∀ o, s2.heap.get? c = some o → s3.heap.get? c = some o ∧ H3 c = none := fun c hc o ho => by
        have z := I3.pin (c, o) (List.mem_append_right _ (List.mem_append_right _ (mem_pinsAt hc ho)))
        exact ⟨z.1, z.2.1⟩
      refine ⟨m', lt, i + 1, H3, (I3.unpinned (pins := [])).weak (hw σ3 w3) (fun q val eq => ?_), T.keep _ _ _ a2 fun c hc o ho => (there c hc o ho).1, fun c hc => ?_, v'⟩
      · rw [← w3] at eq
        exact (wipe_some eq).1
      · obtain ⟨o, ho, -⟩ := T.obj _ _ a2 c hc
        exact (there c hc o ho).2
    have pgr := pg.run _ s2 σw H2 x u _ I2' rx (body x H2 y2)
    rw [hx] at pgr
    refine thnF pgr fun _ s3 ⟨σ3, H3, I3, w3, q3⟩ => ?_
    have ptr := pt.run _ s3 σ3 H3 _ I3 q3
    rw [hx] at ptr
    refine thnF ptr fun b s4 ⟨H4, I4, q4⟩ => ?_
    cases b with
    | false => exact held w3 I4 (by simpa using q4)
    | true =>
      have q5 : te σ3 H4 fun y H5 => ∃ acc, H5 L = some (.lst acc) ∧ acc.length < sizeLine ∧ Nx (upd H5 L (.lst (acc ++ [y]))) := by simpa using q4
      have per := pe.run _ s4 σ3 H4 _ I4 q5
      rw [hx] at per
      refine thnF per fun z s5 ⟨yv, H5, I5, ry, acc, hL, hlen, n5⟩ => ?_
      exact app_ok (X := Y) I5 hL hlen ry fun s6 I6 => held w3 I6 n5
theorem lc_hot {pins : List (Addr × Obj)} {s : Shared} {σ : L2.St} {H : Hp} {Q : VK} {elt tg iter : Expr} {ifs : List Expr} {scope : Scope} {own : List (Str × Nat)} {pos pos' : Pos} {wi : TI} {g : TG} {tt : TT} {te : TE} {use : Option (Value → Sem Unit)} {Qf : Value → Shared → Prop} (hot : L2H.HotC X) (hN : X.N.Nodup) (I : Inv X pins σ H s) (hi : L2H.PIH X tg iter wi) (bk : BlkOk X.N X.env.scope scope own)
    (bg : ∀ (s : Shared) (H : Hp) (C : Addr) (cl : List (Str × Addr)) (fp : List Addr), PG (X.blk s H scope (compEnvC scope cl C X.env) fp) tg g) (bt : ∀ (s : Shared) (H : Hp) (C : Addr) (cl : List (Str × Addr)) (fp : List Addr), PTs (X.blk s H scope (compEnvC scope cl C X.env) fp) ifs tt) (be : ∀ (s : Shared) (H : Hp) (C : Addr) (cl : List (Str × Addr)) (fp : List Addr), PE (X.blk s H scope (compEnvC scope cl C X.env) fp) elt te)
    (hs : ∀ x, foldedSetIterable iter X.env x = pure x) (h : tLc wi g tt te (own.map (·.2)) σ H Q) (fin : ∀ D C s' m H', Inv X pins σ H' s' → Q (.ref D) H' → s'.heap.Ns C m → FpOk X pins H' C → compPost (model X.prog X.w) X.A X.xe use Qf (.ref D) C (.ok .next) s') :
    wpAny (model X.prog X.w) X.A (comprehension (.ListComp elt [⟨tg, iter, ifs, 0⟩] scope pos) scope X.env pos' (newList []) false (eval iter X.env) use) Qf X.xe s := by
  obtain ⟨p, hot1, inP⟩ := hot
  have fr : ∀ z ∈ scope.names, z.2 = .free → ∃ c, X.env.cells.lookup z.1 = some c := fun z hz ez => I.ok.has _ (bk.free z hz ez)
  refine wpAny_comprehension_free (use := use) rfl hs (closure_ok fr) bk.kind (fun z hz ez => (bk.uniq z hz).trans (by rw [ez])) (thn (hi.run pins s σ H _ I h) fun _ _ h1 => thn h1 fun _ s2 h2 => ?_)
  obtain ⟨it, fp, tn, J, H2, rfl, I2, T, a2, f2, q⟩ := h2
  refine wpAny_newObj_type (newEnv_comp ?_) (Nat.zero_le _)
  -- L: the new list; then the block's frame
  generalize eL : s2.heap.objs.size = L
  have uL : H2 L = none := I2.hok.fresh (Nat.le_of_eq eL)
  obtain ⟨V, ⟨m0, v0⟩, step⟩ := q L uL
  generalize e3 : ({ s2 with heap := s2.heap.push { cls := .type "list", data := .seq ([] : List Value).toArray } } : Shared) = s3
  generalize eH : upd H2 L (.lst []) = H3 at v0
  have hp3 : s3.heap = s2.heap.push { cls := .type "list", data := .seq ([] : List Value).toArray } := congrArg (·.heap) e3.symm
  have I3 : Inv X pins σ H3 s3 := by
    subst e3 eH
    exact I2.laid (t' := s2.toks) (fun b o hb => Heap.get?_push_of_some _ hb) (Nat.le_of_eq eL) ⟨Nat.zero_le _, [], 0, .nil, by rw [← eL]; exact Heap.get?_push_size _ rfl⟩
  have f3 : ∀ c ∈ fp, FpOk X pins H3 c ∧ c < s3.heap.objs.size := fun c hc => by
    obtain ⟨o, ho, -⟩ := T.obj _ _ a2 c hc
    have lt := Heap.lt_size ho
    have ne : c ≠ L := fun z => by
      rw [z, ← eL] at lt
      exact Nat.lt_irrefl _ lt
    refine ⟨⟨?_, (f2 c hc).2⟩, ?_⟩
    · rw [← eH, upd_ne ne]
      exact (f2 c hc).1
    · rw [hp3, Heap.size_push]
      exact Nat.lt_succ_of_lt lt
  have a3 : tn 0 s3.heap := T.keep _ _ _ a2 fun c _ o ho => by
    rw [hp3]
    exact Heap.get?_push_of_some _ ho
  have I4 := block_start I3 bk hN f3
  have P3 := I3.pin p (List.mem_append_left _ inP)
  have kp : KeptP (X.blk s3 H3 scope (compEnvC scope (cellsFrom (s3.heap.objs.size + 1) scope.names (cloFrom X.env.cells scope.names [])) s3.heap.objs.size X.env) fp) p :=
    ⟨hot1, P3.1, P3.2.1, fun w => (List.mem_cons.mp (I3.stkSub p.1 w)).elim P3.2.2.1 P3.2.2.2.1, fun w => (f3 p.1 w).1.2.2.2.2.2 p (List.mem_append_left _ inP) rfl, P3.2.2.2.2, Nat.ne_of_lt (Heap.lt_size P3.1)⟩
  have a4 : tn 0 ({ s3 with heap := pushCells (s3.heap.push { cls := .type "dict", data := .dict #[] }) scope.names } : Shared).heap := T.keep _ _ _ a3 fun c _ o ho => pushCells_keeps _ _ _ _ (Heap.get?_push_of_some _ ho)
  have loop := turns (Y := X.blk s3 H3 scope (compEnvC scope (cellsFrom (s3.heap.objs.size + 1) scope.names (cloFrom X.env.cells scope.names [])) s3.heap.objs.size X.env) fp) (elt := elt) (iter := iter) (ifs := ifs) (scope := scope) (pos := pos) (vs := own.map (·.2)) (L := L) (V := V) (Qd := fun H => Q (.ref L) H) (R := compPost (model X.prog X.w) X.A X.xe use Qf (.ref L) s3.heap.objs.size) rfl rfl rfl kp T (bg _ _ _ _ _) (bt _ _ _ _ _) (be _ _ _ _ _)
    (fun σ2 e2 => by rw [← e2, wipe_length]) step (fun H5 s5 I5 q5 => by
      obtain ⟨m, hm, -⟩ := I5.loc
      exact fin L s3.heap.objs.size s5 m H5 (I3.call' (ch := fp) I5.os I5.base I5.hok I5.bare fun c hc => by
        obtain ⟨⟨-, b2, -, b4, b5, b6⟩, -⟩ := f3 c hc
        exact ⟨b4, b2, b5, b6⟩) q5 hm (I3.fpOk (Nat.le_refl _) I5.free)) m0 _ ⟨0, H3, I4, a4, fun c hc => (f3 c hc).1.1, v0⟩
  exact codeAny_compStart_list loop (T.self X.A 0 _ _ _ a4 loop)
theorem pe_lcH {elt tg iter : Expr} {ifs : List Expr} {scope : Scope} {own : List (Str × Nat)} {pos : Pos} {wi : TI} {g : TG} {tt : TT} {te : TE} (hot : L2H.HotC X) (hN : X.N.Nodup) (hi : L2H.PIH X tg iter wi) (bk : BlkOk X.N X.env.scope scope own)
    (bg : ∀ (s : Shared) (H : Hp) (C : Addr) (cl : List (Str × Addr)) (fp : List Addr), PG (X.blk s H scope (compEnvC scope cl C X.env) fp) tg g) (bt : ∀ (s : Shared) (H : Hp) (C : Addr) (cl : List (Str × Addr)) (fp : List Addr), PTs (X.blk s H scope (compEnvC scope cl C X.env) fp) ifs tt)
    (be : ∀ (s : Shared) (H : Hp) (C : Addr) (cl : List (Str × Addr)) (fp : List Addr), PE (X.blk s H scope (compEnvC scope cl C X.env) fp) elt te) (plain : ∀ x, foldedSetIterable iter X.env x = pure x) : PE X (.ListComp elt [⟨tg, iter, ifs, 0⟩] scope pos) (tLc wi g tt te (own.map (·.2))) :=
  ⟨fun pins s σ H Q I h => by
    rw [eval_ListComp]
    refine lc_hot hot hN I hi bk bg bt be plain h fun L C t m G J q names fpo => ⟨m, names, fun heap2 same => ⟨.ref L, G, ?_, rfl, q⟩⟩
    exact J.turned (t' := t.toks) (fun b o ne at1 => (same.2 b ne).trans at1) fpo.1 fpo.2.1 fpo.2.2.2.1 fpo.2.2.2.2.1 fpo.2.2.2.2.2⟩
end
section
variable {X : Cx} {W : WX} {e a b c tg iter elt : Expr} {f g h : ExF} {pos : Pos}
abbrev SIH (X : Cx) (W : WX) (tg iter : Expr) (src : Src) : Prop := L2H.PIH X tg iter (tI X.K W src)
theorem PIH.imp {X : Cx} {tg iter : Expr} {t t' : TI} (h : L2H.PIH X tg iter t) (k : ∀ σ H Z, t' σ H Z → t σ H Z) : L2H.PIH X tg iter t' := ⟨fun pins s σ H Z I q => h.run pins s σ H Z I (k σ H Z q)⟩
theorem sih_r1 {p : Pos} (hg : Gl X "range") (hm : X.mg "range" = none) (ha : SE X W a f) (hs : starEach [a] X.env = [(false, eval a X.env)] := by rfl) (h1 : starEach (a :: []) X.env = (false, eval a X.env) :: starEach [] X.env := by rfl) :
    SIH X W tg (.Call (.Name "range" p) [a] [] pos) (srR1 f) := PIH.imp (L2H.pi_range1H hg hm (pa_cons ha pa_nil h1) hs) fun σ H Z ⟨H0, F0, F, τ, S, h⟩ => by
  refine ⟨H0, F0, F, τ, S, EndE.mono (EndR.seq h) fun x H1 ⟨r, F1, p1, r1, h1⟩ => ?_⟩
  cases q : r.d with
  | int n =>
    rw [q] at h1 r1
    cases r1
    have h2 : EndR X.K W F1 σ H1 Z (if rgOk n = true then some (.ok (intsD n.toNat 0)) else none) := h1
    by_cases z : rgOk n = true
    · rw [if_pos z] at h2
      obtain ⟨z1, z2⟩ := rg_of z
      exact ⟨n, rfl, z1, z2, h2 _ F1 H1 (Pst.refl p1.fh) (wk_rng 0 n.toNat)⟩
    · rw [if_neg z] at h2
      exact h2.elim
  | _ => rw [q] at h1; exact h1.elim
theorem hot_suite {a : Addr} {oe : Obj} {pn : List (Addr × Obj)} {cls : Value} {d : Option Addr} (hz : L2N.Zn cls d oe) (hf : ∃ vs, oe.data = .fields vs) : L2H.HotC (X.suite a ((a, oe) :: pn)) := by
  obtain ⟨vs, hv⟩ := hf
  exact ⟨(a, oe), ⟨rfl, vs, hv, hz.2.2 vs hv⟩, List.mem_cons_self⟩
theorem se_compH {ifs : List Expr} {scope : Scope} {own : List (Str × Nat)} {src : Src} {t : Tgt} {js : List Nat} {gg : TG} {cond body : ExF} (hc : L2H.HotC X) (hN : X.N.Nodup) (hi : SIH X W tg iter src) (ok : BlkOk X.N X.env.scope scope own)
    (hg : ∀ (s : Shared) (H : Hp) (C : Addr) (cl : List (Str × Addr)) (fp : List Addr), PG (X.blk s H scope (compEnvC scope cl C X.env) fp) tg gg) (hT : TgS X.K gg t js) (hjs : ∀ j ∈ js, j ∈ own.map (·.2))
    (ht : ∀ (s : Shared) (H : Hp) (C : Addr) (cl : List (Str × Addr)) (fp : List Addr), PTs (X.blk s H scope (compEnvC scope cl C X.env) fp) ifs (tT X.K Wn cond))
    (he : ∀ (s : Shared) (H : Hp) (C : Addr) (cl : List (Str × Addr)) (fp : List Addr), SE (X.blk s H scope (compEnvC scope cl C X.env) fp) Wn elt body) (hs : ∀ x, foldedSetIterable iter X.env x = pure x := by intro _; rfl) :
    SE X W (.ListComp elt [⟨tg, iter, ifs, 0⟩] scope pos) (eComp src t (own.map (·.2)) cond body) :=
  PE.imp (pe_lcH hc hN hi ok hg ht he hs) fun σ H Q h => comp_end hT hjs (fun _ _ _ z => z) (fun _ _ _ z => z) h
end
end Pw
namespace Pw
open PySem PySem.Spec PyProof.Rows L2 Pv
section
variable {X : Cx} {W : WX} {tg iter elt : Expr} {pos : Pos}
theorem se_compV {ifs : List Expr} {scope : Scope} {own : List (Str × Nat)} {src : Src} {t : Tgt} {js vs : List Nat} {gg : TG} {cond body : ExF} (hc : X.calm = true) (hN : X.N.Nodup) (hi : SI X W tg iter src) (ok : BlkOk X.N X.env.scope scope own) (hv : own.map (·.2) = vs)
    (hg : ∀ (s : Shared) (H : Hp) (C : Addr) (cl : List (Str × Addr)) (fp : List Addr), PG (X.blk s H scope (compEnvC scope cl C X.env) fp) tg gg) (hT : TgS X.K gg t js) (hjs : ∀ j ∈ js, j ∈ own.map (·.2))
    (ht : ∀ (s : Shared) (H : Hp) (C : Addr) (cl : List (Str × Addr)) (fp : List Addr), PTs (X.blk s H scope (compEnvC scope cl C X.env) fp) ifs (tT X.K Wn cond))
    (he : ∀ (s : Shared) (H : Hp) (C : Addr) (cl : List (Str × Addr)) (fp : List Addr), SE (X.blk s H scope (compEnvC scope cl C X.env) fp) Wn elt body) (hs : ∀ x, foldedSetIterable iter X.env x = pure x := by intro _; rfl) :
    SE X W (.ListComp elt [⟨tg, iter, ifs, 0⟩] scope pos) (eComp src t vs cond body) := by
  subst hv
  exact se_comp hc hN hi ok hg hT hjs ht he hs
theorem se_compHV {ifs : List Expr} {scope : Scope} {own : List (Str × Nat)} {src : Src} {t : Tgt} {js vs : List Nat} {gg : TG} {cond body : ExF} (hc : L2H.HotC X) (hN : X.N.Nodup) (hi : SIH X W tg iter src) (ok : BlkOk X.N X.env.scope scope own) (hv : own.map (·.2) = vs)
    (hg : ∀ (s : Shared) (H : Hp) (C : Addr) (cl : List (Str × Addr)) (fp : List Addr), PG (X.blk s H scope (compEnvC scope cl C X.env) fp) tg gg) (hT : TgS X.K gg t js) (hjs : ∀ j ∈ js, j ∈ own.map (·.2))
    (ht : ∀ (s : Shared) (H : Hp) (C : Addr) (cl : List (Str × Addr)) (fp : List Addr), PTs (X.blk s H scope (compEnvC scope cl C X.env) fp) ifs (tT X.K Wn cond))
    (he : ∀ (s : Shared) (H : Hp) (C : Addr) (cl : List (Str × Addr)) (fp : List Addr), SE (X.blk s H scope (compEnvC scope cl C X.env) fp) Wn elt body) (hs : ∀ x, foldedSetIterable iter X.env x = pure x := by intro _; rfl) :
    SE X W (.ListComp elt [⟨tg, iter, ifs, 0⟩] scope pos) (eComp src t vs cond body) := by
  subst hv
  exact se_compH hc hN hi ok hg hT hjs ht he hs
end
end Pw
namespace Pw
open PySem PySem.Spec PyProof.Rows L2 Pv
theorem ss_setCV {X : Cx} {W : WX} {tg iter elt : Expr} {pos : Pos} {ifs : List Expr} {scope : Scope} {own : List (Str × Nat)} {src : Src} {t : Tgt} {js vs : List Nat} {gg : TG} {cond body : ExF} {i : Nat} {y : Str} {py spos : Pos} (hc : X.calm = true) (hN : X.N.Nodup) (hy : X.N[i]? = some y) (hyl : X.env.scope.names.lookup y = some .local)
    (hsw : swapsWith (.ListComp elt [⟨tg, iter, ifs, 0⟩] scope pos) (some (.Name y py)) spos.line X.env = pure true) (hi : SI X W tg iter src) (ok : BlkOk X.N X.env.scope scope own) (hv : own.map (·.2) = vs)
    (hg : ∀ (s : Shared) (H : Hp) (C : Addr) (cl : List (Str × Addr)) (fp : List Addr), PG (X.blk s H scope (compEnvC scope cl C X.env) fp) tg gg) (hT : TgS X.K gg t js) (hjs : ∀ j ∈ js, j ∈ own.map (·.2))
    (ht : ∀ (s : Shared) (H : Hp) (C : Addr) (cl : List (Str × Addr)) (fp : List Addr), PTs (X.blk s H scope (compEnvC scope cl C X.env) fp) ifs (tT X.K Wn cond))
    (he : ∀ (s : Shared) (H : Hp) (C : Addr) (cl : List (Str × Addr)) (fp : List Addr), SE (X.blk s H scope (compEnvC scope cl C X.env) fp) Wn elt body) (hs : ∀ x, foldedSetIterable iter X.env x = pure x := by intro _; rfl) :
    SS X W (.Assign [.Name y py] (.ListComp elt [⟨tg, iter, ifs, 0⟩] scope pos) spos) (sAsg i (eComp src t vs cond body)) := by
  subst hv
  exact ss_setC hc hN hy hyl hsw hi ok hg hT hjs ht he hs
end Pw
set_option Elab.async false
set_option linter.all false
set_option maxRecDepth 100000
set_option maxHeartbeats 2000000
/-! I11: tables. -/
namespace Pv
open PySem
def lkB : List (Str × Bool) → Str → Option Bool
  | [], _ => none
  | p :: r, c => if c = p.1 then some p.2 else lkB r c
theorem lkB_mem {b : Bool} {c : Str} : ∀ {l : List (Str × Bool)}, lkB l c = some b → (c, b) ∈ l
  | [], h => by cases h
  | p :: r, h => by
    have h' : (if c = p.1 then some p.2 else lkB r c) = some b := h
    by_cases e : c = p.1
    · rw [if_pos e] at h'
      cases h'
      rw [e]
      exact List.mem_cons_self
    · rw [if_neg e] at h'
      exact List.mem_cons_of_mem _ (lkB_mem h')
def pick : List (Str × (Nat → StF)) → Str → Nat → StF
  | [], _, _ => fun _ => none
  | p :: r, c, a => if c = p.1 then p.2 a else pick r c a
theorem pick_hd {c : Str} {q : Nat → StF} {r : List (Str × (Nat → StF))} {a : Nat} : pick ((c, q) :: r) c a = q a := if_pos rfl
theorem pick_tl {c d : Str} {q : Nat → StF} {r : List (Str × (Nat → StF))} {a : Nat} (h : c ≠ d) : pick ((d, q) :: r) c a = pick r c a := if_neg h
end Pv
set_option Elab.async false
set_option linter.all false
set_option maxRecDepth 100000
set_option maxHeartbeats 2000000
/-! I12: a head's facts with a few more of the classes of exceptions; a law's end. -/
namespace Pw
open PySem PySem.Spec PyProof.Rows L2 Pv
/-- what isinstance asks of the class c of an exception -/
def excB (K : PySem.W.Frag) (D : Addr) : Bool :=
  He.eqO (PySem.W.findIn K (.ref D) "__getattribute__") (some (some (.builtin "BaseException.__getattribute__"))) && (He.eqO (PySem.W.findIn K (.ref D) "__getattr__") (some none) && (decide (PySem.W.subIn K (.ref D) (.type "BaseException") = some true) && (PySem.W.hasDictIn K D &&
    (He.eqO (PySem.W.findIn K (.ref D) "__class__") (some (some (.builtin "object.__class__"))) && (He.eqO (PySem.W.specialIn K (.builtin "object.__class__") "__get__") (some (some (.builtin "getset_descriptor.__get__"))) && (decide (PySem.W.takesIn K (.builtin "object.__class__") = some true) && decide (PySem.W.mroIn K D (.type "object") = some true)))))))
theorem excB_ok {K : PySem.W.Frag} {D : Addr} (h : excB K D = true) : ExcC K D := by
  obtain ⟨h1, h⟩ := He.ba h
  obtain ⟨h2, h⟩ := He.ba h
  obtain ⟨h3, h⟩ := He.ba h
  obtain ⟨h4, h⟩ := He.ba h
  obtain ⟨h5, h⟩ := He.ba h
  obtain ⟨h6, h⟩ := He.ba h
  obtain ⟨h7, h8⟩ := He.ba h
  exact ⟨He.eqO_ok h1, He.eqO_ok h2, of_decide_eq_true h3, h4, He.eqO_ok h5, He.eqO_ok h6, of_decide_eq_true h7, of_decide_eq_true h8⟩
/-- one more fact -/
inductive Xf where
  | xc (c : Str)
  | kr (c d : Str) (b : Bool)
  | kt (c : Str) (d : String) (b : Bool)
  | bi (x : Str) (id : String)
def Xf.ok (K : PySem.W.Frag) : Xf → Bool
  | .xc c => excB K (He.ga K c)
  | .kr c d b => decide (PySem.W.kitOne K (cv K c) (.ref (He.ga K d)) = some b)
  | .kt c d b => decide (PySem.W.kitOne K (cv K c) (.type d) = some b)
  | .bi x id => He.eqO (PySem.W.nsIn K mainGlobals x) (some (some (.builtin id)))
def exAll (l : List Xf) (K : PySem.W.Frag) : Bool := l.all fun f => f.ok K
theorem exAll_at {l : List Xf} {K : PySem.W.Frag} (h : exAll l K = true) (i : Nat) {f : Xf} (e : l[i]? = some f := by rfl) : f.ok K = true := List.all_eq_true.mp h f (List.mem_of_getElem? e)
section
variable {K : PySem.W.Frag} {h : Heap} {mg : Str → Option Value}
theorem xf_xc {c : Str} (q : (Xf.xc c).ok K = true) : ExcC K (He.ga K c) := excB_ok q
theorem xf_kr {c d : Str} {b : Bool} (q : (Xf.kr c d b).ok K = true) : PySem.W.kitOne K (cv K c) (.ref (He.ga K d)) = some b := of_decide_eq_true q
theorem xf_kt {c : Str} {d : String} {b : Bool} (q : (Xf.kt c d b).ok K = true) : PySem.W.kitOne K (cv K c) (.type d) = some b := of_decide_eq_true q
theorem xf_bi (X : K.In h) (G : h.Ns mainGlobals mg) {x : Str} {id : String} (q : (Xf.bi x id).ok K = true) : mg x = some (.builtin id) := PySem.W.mg_of X G (He.eqO_ok q)
end
abbrev AlE : Type := He.AlD × Bool
def obsE (fa : List He.Fa) (fn : List He.DefD) (l : List Xf) (K : PySem.W.Frag) : AlE := (He.obsD fa fn K, exAll l K)
def obsEG (n : Nat) (fa : List He.Fa) (fn : List He.DefD) (l : List Xf) (g : Addr → Option Obj) : AlE := obsE fa fn l (He.frG g (He.asD g n))
def hookE (n : Nat) (fa : List He.Fa) (fn : List He.DefD) (l : List Xf) : PySem.W.Hook where
  α := AlE
  obs := fun s => obsEG n fa fn l s.heap.get?
  val := fun _ => (He.valD fn, true)
  says := fun _ h => ∃ K : PySem.W.Frag, K.In h ∧ He.SaysD fa fn K ∧ exAll l K = true
  of := fun _ _ e => ⟨_, He.frG_in, congrArg (fun z : AlE => z.1) e, congrArg (fun z : AlE => z.2) e⟩
  keeps := fun _ _ _ ⟨K, inn, says⟩ k => ⟨K, PySem.W.Frag.In.keeps inn k, says⟩
theorem obsEG_eq {n : Nat} {fa : List He.Fa} {fn : List He.DefD} {l : List Xf} {g : Addr → Option Obj} {s : Shared} (h : ∀ a, g a = s.heap.get? a) : obsEG n fa fn l g = (hookE n fa fn l).obs s := by
  have same : g = s.heap.get? := funext h
  rw [same] <;> rfl
def kf (s : PySem.W.SharedT) : PySem.W.Frag := He.frG (HandSHeadRun.getT s) (He.asD (HandSHeadRun.getT s) 2)
theorem run_join {β : Type} {fa : List He.Fa} {fn : List He.DefD} {xf : List Xf} {o : Option (Shared × PySem.W.SharedT)} {f1 : Shared × PySem.W.SharedT → Bool} {f2 : Shared × PySem.W.SharedT → β} {b2 : β} (h1 : o.map f1 = some true) (h2 : o.map f2 = some b2)
    (h3 : o.map (fun x => fa.all fun f => f.ok (kf x.2)) = some true) (h4 : o.map (fun x => fn.all fun d => d.ok (kf x.2)) = some true) (h5 : o.map (fun x => fn.map fun d => He.fnW (kf x.2) d.at_) = some (fn.map He.DefD.val)) (h6 : o.map (fun x => exAll xf (kf x.2)) = some true) :
    o.map (fun x => (f1 x, f2 x, obsEG 2 fa fn xf (HandSHeadRun.getT x.2))) = some (true, b2, (He.valD fn, true)) := by
  cases o with
  | none => cases h1
  | some x =>
    have e1 : f1 x = true := Option.some.inj h1
    have e2 : f2 x = b2 := Option.some.inj h2
    have e3 : (fa.all fun f => f.ok (kf x.2)) = true := Option.some.inj h3
    have e4 : (fn.all fun d => d.ok (kf x.2)) = true := Option.some.inj h4
    have e5 : (fn.map fun d => He.fnW (kf x.2) d.at_) = fn.map He.DefD.val := Option.some.inj h5
    have e6 : exAll xf (kf x.2) = true := Option.some.inj h6
    show some (f1 x, f2 x, ((((fa.all fun f => f.ok (kf x.2)) && fn.all fun d => d.ok (kf x.2)), fn.map fun d => He.fnW (kf x.2) d.at_), exAll xf (kf x.2))) = some (true, b2, ((true, fn.map He.DefD.val), true))
    rw [e1, e2, e3, e4, e5, e6]
    rfl
/-- a run's facts in two parts -/
theorem all_join {α β : Type} {l1 l2 : List α} {p : α → β → Bool} {o : Option β} (h1 : o.map (fun x => l1.all fun f => p f x) = some true) (h2 : o.map (fun x => l2.all fun f => p f x) = some true) : o.map (fun x => (l1 ++ l2).all fun f => p f x) = some true := by
  cases o with
  | none => cases h1
  | some x =>
    have e1 : (l1.all fun f => p f x) = true := Option.some.inj h1
    have e2 : (l2.all fun f => p f x) = true := Option.some.inj h2
    show some ((l1 ++ l2).all fun f => p f x) = some true
    rw [List.all_append, e1, e2]
    rfl
/-- nothing may leave -/
theorem fn0 {P : Program} {w : World} {K : PySem.W.Frag} {mg : Str → Option Value} {base : Heap} {k : Nat} {f : Addr} {fd : FuncData} {ps : List Str} {sp : Sp} (F : FnOk P w K mg base (L2N.CX P w) k f fd ps sp) :
    FnOk P w K mg base CX0 k f fd ps (fun vs H Q _ => sp vs H Q fun _ _ _ => False) :=
  ⟨fun vs H Q E h => F.len vs H Q _ h, fun A outer s H args us vs Q E hr he hb hv hs => codeAny_mono (F.run A outer s H args us vs Q _ hr he hb hv hs) fun r s' h => by
    cases r with
    | ok fl => cases fl <;> exact h
    | error e =>
      obtain ⟨_, _, _, _, _, _, _, _, _, _, _, _, no⟩ := h
      exact no.elim⟩
/-- the law's def, over the evaluator -/
def spLaw (K : PySem.W.Frag) (n : Nat) : Sp := fun vs H Q _ => ∃ (a : Addr) (ns : List Int), vs = [.ref a] ∧ ns.length ≤ n ∧ SqL K H a (ns.map V.int) ∧ ∀ H', Q (.bl true) H'
theorem law_end {P : Program} {w : World} {K : PySem.W.Frag} {mg : Str → Option Value} {base : Heap} {k n : Nat} {x p : Str} {G : Gf} {fa : Addr} {fd : FuncData} {qual : Str} {params : Arguments} {body : List Stmt} {scope : Scope} (F : FunD K x qual params body scope [] [] fa fd)
    (ok : FnOk P w K mg base (L2N.CX P w) k fa fd [p] (spG K 1 G)) (hG : ∀ ns : List Int, ns.length ≤ n → G [.scr ns] = okD (.bl true)) : FnOk P w K mg base CX0 k fa fd [p] (spLaw K n) :=
  (fn0 ok).imp fun vs H Q E ⟨a, ns, e, hl, hS, hQ⟩ => ⟨by rw [e]; rfl, H, [.scr ns], Ex.refl H, by rw [e]; exact .cons (.scr hS) .nil, by
    rw [hG ns hl]
    intro v F' H' _ r
    have r' : Rep K F' v (.bl true) := r
    cases r'
    exact hQ H'⟩
end Pw
set_option Elab.async false
set_option linter.all false
set_option maxRecDepth 100000
set_option maxHeartbeats 2000000
/-! I13: the evaluator's steps as rules of simp; loops. -/
namespace Pv
open PySem
section
variable (τ : Ev) (f g h : ExF) (a b : StF) (i j : Nat) (d : D)
@[simp] theorem eVar_ap : eVar i τ = (match τ.getD i .un with
  | .va d => okD d
  | _ => none) := rfl
@[simp] theorem eC_ap : eC d τ = okD d := rfl
@[simp] theorem eBin_ap (o : D → D → Option R) : eBin o f g τ = bd (f τ) fun a => bd (g τ) fun b => okR (o a.d b.d) := rfl
@[simp] theorem eUn_ap (o : D → Option R) : eUn o f τ = bd (f τ) fun a => okR (o a.d) := rfl
@[simp] theorem eB1_ap (o : D → Option R) : eB1 o f τ = bd (f τ) fun a => okR (o a.d) := rfl
@[simp] theorem eB2_ap (o : D → D → Option R) : eB2 o f g τ = bd (f τ) fun a => bd (g τ) fun b => okR (o a.d b.d) := rfl
@[simp] theorem Rd_v : (R.v d).d = d := rfl
@[simp] theorem Rd_own (ds : List D) : (R.own ds).d = .lst ds := rfl
@[simp] theorem Rsl_v : (R.v d).sl = .va d := rfl
@[simp] theorem Rsl_own (ds : List D) : (R.own ds).sl = .ow false ds := rfl
@[simp] theorem lent_va : (Sl.va d).lent = .va d := rfl
@[simp] theorem lent_ow (k : Bool) (ds : List D) : (Sl.ow k ds).lent = .va (.lst ds) := rfl
@[simp] theorem lent_un : Sl.un.lent = .un := rfl
@[simp] theorem asB_bl (k : Bool) : asB (.v (.bl k)) = some k := rfl
@[simp] theorem eAnd_ap : eAnd f g τ = bd (f τ) fun a => (asB a).elim none fun k => if k = true then g τ else okD (.bl false) := by
  unfold eAnd
  congr 1
  funext a
  cases asB a with
  | none => rfl
  | some k => cases k <;> rfl
@[simp] theorem eOr_ap : eOr f g τ = bd (f τ) fun a => (asB a).elim none fun k => if k = true then okD (.bl true) else g τ := by
  unfold eOr
  congr 1
  funext a
  cases asB a with
  | none => rfl
  | some k => cases k <;> rfl
@[simp] theorem eNot_ap : eNot f τ = bd (f τ) fun a => (asB a).elim none fun k => okD (.bl (!k)) := by
  unfold eNot
  congr 1
  funext a
  cases asB a <;> rfl
@[simp] theorem eIte_ap : eIte h f g τ = bd (h τ) fun a => (asB a).elim none fun k => if k = true then f τ else g τ := by
  unfold eIte
  congr 1
  funext a
  cases asB a with
  | none => rfl
  | some k => cases k <;> rfl
@[simp] theorem eArgs_nil : eArgs [] τ = some (.ok []) := rfl
@[simp] theorem eArgs_cons (fs : List ExF) : eArgs (f :: fs) τ = (match f τ with
  | some (.ok r) => consR r.d (eArgs fs τ)
  | some (.ex c) => some (.ex c)
  | none => none) := rfl
@[simp] theorem eLst_ap (fs : List ExF) : eLst fs τ = ab (eArgs fs τ) fun ds => if ds.length ≤ line then some (.ok (.own ds)) else none := rfl
@[simp] theorem eTup_ap (fs : List ExF) : eTup fs τ = ab (eArgs fs τ) fun ds => if ds.length ≤ line then okD (.tup ds) else none := rfl
@[simp] theorem eCall_ap (G : Gf) (fs : List ExF) : eCall G fs τ = ab (eArgs fs τ) G := rfl
@[simp] theorem eLend_ap (is : List Nat) : eLend is f τ = bd (f (lend is τ)) fun r => if r.flat then some (.ok r) else none := rfl
@[simp] theorem lend_nil : lend [] τ = τ := rfl
@[simp] theorem lend_cons (is : List Nat) : lend (i :: is) τ = lend is (τ.set i ((τ.getD i .un).lent)) := rfl
@[simp] theorem eSlc_ap (lo hi : Option Int) : eSlc f lo hi τ = bd (f τ) fun a => okR (oSlc a.d lo hi) := rfl
@[simp] theorem eFstr_ap (ps : List Fp) : eFstr ps τ = fGo ps Str.empty τ := rfl
@[simp] theorem fGo_nil (acc : Str) : fGo [] acc τ = okD (.str acc) := rfl
@[simp] theorem fGo_txt (x acc : Str) (ps : List Fp) : fGo (.txt x :: ps) acc τ = (if (acc ++ x).length ≤ line then fGo ps (acc ++ x) τ else none) := rfl
@[simp] theorem fGo_ex (acc : Str) (ps : List Fp) : fGo (.ex f :: ps) acc τ = bd (f τ) fun r => match fmt1 r.d with
    | some y => if (acc ++ y).length ≤ line then fGo ps (acc ++ y) τ else none
    | none => none := rfl
@[simp] theorem sNx_ap : sNx τ = some (.nx τ) := rfl
@[simp] theorem sSeq_ap : sSeq a b τ = (match a τ with
  | some (.nx τ') => b τ'
  | o => o) := rfl
@[simp] theorem sAsg_ap : sAsg i f τ = sd (f τ) τ fun r => some (.nx (τ.set i r.sl)) := rfl
@[simp] theorem sPar_ap : sPar i j f g τ = sd (f τ) τ fun a => sd (g τ) τ fun b => some (.nx ((τ.set i (.va a.d)).set j (.va b.d))) := rfl
@[simp] theorem sRet_ap : sRet f τ = sd (f τ) τ fun r => some (.rt r) := rfl
@[simp] theorem sRetV_ap : sRetV i τ = (match τ.getD i .un with
  | .va d => some (.rt (.v d))
  | .ow _ ds => some (.rt (.own ds))
  | .un => none) := rfl
@[simp] theorem sIf_ap : sIf f a b τ = sd (f τ) τ fun r => (asB r).elim none fun k => if k = true then a τ else b τ := by
  unfold sIf
  congr 1
  funext r
  cases asB r with
  | none => rfl
  | some k => cases k <;> rfl
@[simp] theorem sDrop_ap : sDrop f τ = sd (f τ) τ fun _ => some (.nx τ) := rfl
@[simp] theorem sApp_ap : sApp i f τ = (match τ.getD i .un with
  | .ow false ds => sd (f τ) τ fun r => if ds.length < line then some (.nx (τ.set i (.ow false (ds ++ [r.d])))) else none
  | _ => none) := rfl
@[simp] theorem sBrk_ap : sBrk τ = some (.bk τ) := rfl
@[simp] theorem sCnt_ap : sCnt τ = some (.ct τ) := rfl
@[simp] theorem sFrz_ap : sFrz i τ = some (.nx (τ.set i ((τ.getD i .un).lent))) := rfl
@[simp] theorem sRaise_ap (c : Str) : sRaise c τ = some (.ex c τ) := rfl
@[simp] theorem sUnp_ap (t : Tgt) : sUnp t f τ = sd (f τ) τ fun r => match t r.d τ with
  | some τ' => some (.nx τ')
  | none => none := rfl
@[simp] theorem tgN_ap : tgN j d τ = some (τ.set j (.va d)) := rfl
@[simp] theorem srSeq_ap : srSeq f τ = srB (f τ) fun r => match r.d with
  | .lst xs => some (.ok xs)
  | .tup xs => some (.ok xs)
  | _ => none := rfl
@[simp] theorem srR1_ap : srR1 f τ = srB (f τ) fun r => match r.d with
  | .int n => if rgOk n then some (.ok (intsD n.toNat 0)) else none
  | _ => none := rfl
@[simp] theorem srR2_ap : srR2 f g τ = srB (f τ) fun r => srB (g τ) fun q => match r.d, q.d with
  | .int a, .int b => if rgOk a && rgOk b then some (.ok (intsD (b - a).toNat a)) else none
  | _, _ => none := rfl
@[simp] theorem srS_ap : srS f τ = srB (f τ) fun r => match r.d with
  | .str x => some (.ok (x.cps.toList.map fun c => .str ⟨#[c]⟩))
  | _ => none := rfl
@[simp] theorem sFor_ap (src : Src) (t : Tgt) : sFor src t a τ = (match src τ with
  | some (.ok ds) => loop t a ds τ
  | some (.ex c) => some (.ex c τ)
  | none => none) := rfl
@[simp] theorem eComp_ap (src : Src) (t : Tgt) (vs : List Nat) : eComp src t vs f g τ = ab (src τ) fun ds => match compGo t f g (wipeT τ vs) ds with
  | some es => if ds.length ≤ line then some (.ok (.own es)) else none
  | none => none := rfl
@[simp] theorem wipeT_nil : wipeT τ [] = τ := rfl
@[simp] theorem wipeT_cons (vs : List Nat) : wipeT τ (i :: vs) = (wipeT τ vs).set i .un := rfl
@[simp] theorem yes_ap : yes τ = okD (.bl true) := rfl
theorem loop_nil (t : Tgt) : loop t a [] τ = some (.nx τ) := rfl
theorem loop_cons (t : Tgt) (xs : List D) : loop t a (d :: xs) τ = (match t d τ with
    | none => none
    | some τ1 => match a τ1 with
      | some (.nx τ') => loop t a xs τ'
      | some (.ct τ') => loop t a xs τ'
      | some (.bk τ') => some (.nx τ')
      | o => o) := rfl
theorem fnRun_ap (np nl : Nat) (ds : List D) : fnRun np nl a ds = (if ds.length = np then (match a (ds.map .va ++ List.replicate (nl - np) .un) with
  | some (.rt r) => some (.ok r)
  | some (.nx _) => okD .non
  | some (.ex c _) => some (.ex c)
  | _ => none) else none) := rfl
end
/-! operators on ints -/
section
variable (i j : Int)
@[simp] theorem oAdd_int : oAdd (.int i) (.int j) = some (.v (.int (i + j))) := rfl
@[simp] theorem oSub_int : oSub (.int i) (.int j) = some (.v (.int (i - j))) := rfl
@[simp] theorem uNeg_int : uNeg (.int i) = some (.v (.int (-i))) := rfl
@[simp] theorem oEq_int : oEq (.int i) (.int j) = some (.v (.bl (decide (i = j)))) := by
  show some (R.v (D.bl (i == j))) = _
  congr 3
@[simp] theorem oNe_int : oNe (.int i) (.int j) = some (.v (.bl (!decide (i = j)))) := by
  show some (R.v (D.bl (!(i == j)))) = _
  congr 4
@[simp] theorem oEq_bl (p q : Bool) : oEq (.bl p) (.bl q) = some (.v (.bl (p == q))) := rfl
@[simp] theorem oNe_bl (p q : Bool) : oNe (.bl p) (.bl q) = some (.v (.bl (!(p == q)))) := rfl
@[simp] theorem oLt_int : oLt (.int i) (.int j) = some (.v (.bl (decide (i < j)))) := rfl
@[simp] theorem oLe_int : oLe (.int i) (.int j) = some (.v (.bl (decide (i ≤ j)))) := rfl
@[simp] theorem oGt_int : oGt (.int i) (.int j) = some (.v (.bl (decide (j < i)))) := rfl
@[simp] theorem oGe_int : oGe (.int i) (.int j) = some (.v (.bl (decide (j ≤ i)))) := rfl
@[simp] theorem oIsB_bl (p q : Bool) : oIsB (.bl p) (.bl q) = some (.v (.bl (decide (p = q)))) := rfl
@[simp] theorem bInt_int : bInt (.int i) = some (.v (.int i)) := rfl
@[simp] theorem bAbs_int : bAbs (.int i) = some (.v (.int (if i < 0 then -i else i))) := rfl
@[simp] theorem oGcd_int : oGcd (.int i) (.int j) = some (.v (.int (Int.gcd i j))) := rfl
theorem oMulV_int (h : mulOk i j = true) : oMulV (.int i) (.int j) = some (.v (.int (i * j))) := if_pos h
theorem oDiv_int (h : divOk j = true) : oDiv (.int i) (.int j) = some (.v (.int (i.fdiv j))) := if_pos h
theorem oMod_int (h : j ≠ 0) : oMod (.int i) (.int j) = some (.v (.int (i.fmod j))) := if_pos h
end
theorem log2_lt {a n : Nat} (h : a < 2 ^ n) (h0 : 0 < n) : a.log2 < n := by
  by_cases z : a = 0
  · rw [z, Nat.log2_zero]
    exact h0
  · exact (Nat.log2_lt z).mpr h
theorem mulOk_of {i j : Int} (hi : i.natAbs < 2 ^ 4000) (hj : j.natAbs < 2 ^ 4000) : mulOk i j = true := by
  have h1 := log2_lt hi (by decide)
  have h2 := log2_lt hj (by decide)
  exact decide_eq_true (by omega)
theorem divOk_of {j : Int} (h0 : 0 < j) (hj : j.natAbs < 2 ^ 4000) : divOk j = true := by
  have h2 := log2_lt hj (by decide)
  unfold divOk
  rw [decide_eq_true h0, decide_eq_true (by omega : j.natAbs.log2 < 9000)]
  rfl
end Pv
namespace Pv
open PySem
theorem sSeq_to {a b : StF} {τ τ' : Ev} {r : Option Fl} (h : a τ = some (.nx τ')) (k : b τ' = r) : sSeq a b τ = r := by
  show (match a τ with
    | some (.nx τ') => b τ'
    | o => o) = r
  rw [h]
  exact k
theorem sSeq_rt {a b : StF} {τ : Ev} {v : R} (h : a τ = some (.rt v)) : sSeq a b τ = some (.rt v) := by
  show (match a τ with
    | some (.nx τ') => b τ'
    | o => o) = _
  rw [h]
theorem sSeq_ex {a b : StF} {τ τ' : Ev} {c : Str} (h : a τ = some (.ex c τ')) : sSeq a b τ = some (.ex c τ') := by
  show (match a τ with
    | some (.nx τ') => b τ'
    | o => o) = _
  rw [h]
theorem fnRun_rt {np nl : Nat} {b : StF} {ds : List D} {v : R} (hl : ds.length = np) (h : b (ds.map .va ++ List.replicate (nl - np) .un) = some (.rt v)) : fnRun np nl b ds = some (.ok v) := by
  rw [fnRun_ap, if_pos hl, h]
theorem fnRun_ex {np nl : Nat} {b : StF} {ds : List D} {c : Str} {τ : Ev} (hl : ds.length = np) (h : b (ds.map .va ++ List.replicate (nl - np) .un) = some (.ex c τ)) : fnRun np nl b ds = some (.ex c) := by
  rw [fnRun_ap, if_pos hl, h]
end Pv
namespace Pv
open PySem
@[simp] theorem eExc_ap (i a : Nat) (b : Bool) (τ : Ev) : eExc i a b τ = (match τ.getD i .un with
  | .va (.adr a') => if a' = a then okD (.bl b) else none
  | _ => none) := rfl
theorem tryS_hit {i : Nat} {body : StF} {bt : Str → Option Bool} {q : Str → Nat → StF} {τ τ' : Ev} {c : Str} {r : Option Fl} (h : body τ = some (.ex c τ')) (hb : bt c = some true) (hq : ∀ a, wipeFl i (q c a (τ'.set i (.va (.adr a)))) = r) : sTryS i body bt q τ = r := by
  unfold sTryS
  rw [h]
  show (match bt c with
    | some true => uni fun a => wipeFl i (q c a (τ'.set i (.va (.adr a))))
    | some false => some (.ex c τ')
    | none => none) = r
  rw [hb]
  exact uni_eq hq
end Pv
set_option Elab.async false
set_option linter.all false
set_option maxRecDepth 100000
set_option maxHeartbeats 0
namespace Hd
open PySem PySem.Spec PyProof.Rows L2 Pw
def tp (i : Nat) : Stmt := PySem.Challenge.pw_stepscounted_k00_exact_numbers.main.body.getD i (.Pass ⟨0, 0, 0, 0⟩)
def d52 : He.DefD := ⟨("ratio", none), "ratio", "ratio", defArgs (tp 52), defBody (tp 52), defScope (tp 52), [], []⟩
def d53 : He.DefD := ⟨("is_whole", none), "is_whole", "is_whole", defArgs (tp 53), defBody (tp 53), defScope (tp 53), [], []⟩
def d54 : He.DefD := ⟨("top_of", none), "top_of", "top_of", defArgs (tp 54), defBody (tp 54), defScope (tp 54), [], []⟩
def d55 : He.DefD := ⟨("bottom_of", none), "bottom_of", "bottom_of", defArgs (tp 55), defBody (tp 55), defScope (tp 55), [], []⟩
def d68 : He.DefD := ⟨("read_numeral", none), "read_numeral", "read_numeral", defArgs (tp 68), defBody (tp 68), defScope (tp 68), [], []⟩
def d71 : He.DefD := ⟨("_law_cell", none), "_law_cell", "_law_cell", defArgs (tp 71), defBody (tp 71), defScope (tp 71), [], []⟩
def d73 : He.DefD := ⟨("_law_gcd", none), "_law_gcd", "_law_gcd", defArgs (tp 73), defBody (tp 73), defScope (tp 73), [], []⟩
def d75 : He.DefD := ⟨("_law_top", none), "_law_top", "_law_top", defArgs (tp 75), defBody (tp 75), defScope (tp 75), [], []⟩
def d76 : He.DefD := ⟨("_law_bottom", none), "_law_bottom", "_law_bottom", defArgs (tp 76), defBody (tp 76), defScope (tp 76), [], []⟩
def d77 : He.DefD := ⟨("_law_is_int", none), "_law_is_int", "_law_is_int", defArgs (tp 77), defBody (tp 77), defScope (tp 77), [], []⟩
def d56 : He.DefD := ⟨("plus", none), "plus", "plus", defArgs (tp 56), defBody (tp 56), defScope (tp 56), [], []⟩
def d57 : He.DefD := ⟨("minus", none), "minus", "minus", defArgs (tp 57), defBody (tp 57), defScope (tp 57), [], []⟩
def d58 : He.DefD := ⟨("times", none), "times", "times", defArgs (tp 58), defBody (tp 58), defScope (tp 58), [], []⟩
def d59 : He.DefD := ⟨("over", none), "over", "over", defArgs (tp 59), defBody (tp 59), defScope (tp 59), [], []⟩
def d60 : He.DefD := ⟨("less", none), "less", "less", defArgs (tp 60), defBody (tp 60), defScope (tp 60), [], []⟩
def d61 : He.DefD := ⟨("floor_of", none), "floor_of", "floor_of", defArgs (tp 61), defBody (tp 61), defScope (tp 61), [], []⟩
def d62 : He.DefD := ⟨("ceiling_of", none), "ceiling_of", "ceiling_of", defArgs (tp 62), defBody (tp 62), defScope (tp 62), [], []⟩
def d63 : He.DefD := ⟨("nearest", none), "nearest", "nearest", defArgs (tp 63), defBody (tp 63), defScope (tp 63), [], []⟩
def d64 : He.DefD := ⟨("common_bottom", none), "common_bottom", "common_bottom", defArgs (tp 64), defBody (tp 64), defScope (tp 64), [], []⟩
def d67 : He.DefD := ⟨("number_text", none), "number_text", "number_text", defArgs (tp 67), defBody (tp 67), defScope (tp 67), [], []⟩
def d72 : He.DefD := ⟨("_law_numbers", none), "_law_numbers", "_law_numbers", defArgs (tp 72), defBody (tp 72), defScope (tp 72), [], []⟩
def d74 : He.DefD := ⟨("_law_make", none), "_law_make", "_law_make", defArgs (tp 74), defBody (tp 74), defScope (tp 74), [], []⟩
def d78 : He.DefD := ⟨("_law_is_number", none), "_law_is_number", "_law_is_number", defArgs (tp 78), defBody (tp 78), defScope (tp 78), [], []⟩
def d82 : He.DefD := ⟨("_law_no_ratio", none), "_law_no_ratio", "_law_no_ratio", defArgs (tp 82), defBody (tp 82), defScope (tp 82), [], []⟩
def d65 : He.DefD := ⟨("least_of", none), "least_of", "least_of", defArgs (tp 65), defBody (tp 65), defScope (tp 65), [], []⟩
def d66 : He.DefD := ⟨("greatest_of", none), "greatest_of", "greatest_of", defArgs (tp 66), defBody (tp 66), defScope (tp 66), [], []⟩
def d69 : He.DefD := ⟨("read_number", none), "read_number", "read_number", defArgs (tp 69), defBody (tp 69), defScope (tp 69), [], []⟩
def d79 : He.DefD := ⟨("_law_stands", none), "_law_stands", "_law_stands", defArgs (tp 79), defBody (tp 79), defScope (tp 79), [], []⟩
def d80 : He.DefD := ⟨("_law_drawn", none), "_law_drawn", "_law_drawn", defArgs (tp 80), defBody (tp 80), defScope (tp 80), [], []⟩
def d83 : He.DefD := ⟨("_law_no_quotient", none), "_law_no_quotient", "_law_no_quotient", defArgs (tp 83), defBody (tp 83), defScope (tp 83), [], []⟩
def d81 : He.DefD := ⟨("_law_no_text", none), "_law_no_text", "_law_no_text", defArgs (tp 81), defBody (tp 81), defScope (tp 81), [], []⟩
def d84 : He.DefD := ⟨("_law_alone", none), "_law_alone", "_law_alone", defArgs (tp 84), defBody (tp 84), defScope (tp 84), [], []⟩
def d85 : He.DefD := ⟨("_law_texts", none), "_law_texts", "_law_texts", defArgs (tp 85), defBody (tp 85), defScope (tp 85), [], []⟩
def d86 : He.DefD := ⟨("_law_values", none), "_law_values", "_law_values", defArgs (tp 86), defBody (tp 86), defScope (tp 86), [], []⟩
def d87 : He.DefD := ⟨("_law_lists", none), "_law_lists", "_law_lists", defArgs (tp 87), defBody (tp 87), defScope (tp 87), [], []⟩
def d88 : He.DefD := ⟨("law", none), "law", "law", defArgs (tp 88), defBody (tp 88), defScope (tp 88), [], []⟩
def fn : List He.DefD := [d52, d53, d54, d55, d68, d71, d73, d75, d76, d77, d56, d57, d58, d59, d60, d61, d62, d63, d64, d67, d72, d74, d78, d82, d65, d66, d69, d79, d80, d83, d81, d84, d85, d86, d87, d88]
def fa : List He.Fa := [.glo "ratio", .glo "is_whole", .glo "top_of", .glo "bottom_of", .glo "read_numeral", .glo "_law_cell", .glo "_law_gcd", .glo "_law_top", .glo "_law_bottom", .glo "_law_is_int", .glo "plus", .glo "minus", .glo "times", .glo "over", .glo "less", .glo "floor_of", .glo "ceiling_of", .glo "nearest", .glo "common_bottom", .glo "number_text", .glo "_law_numbers", .glo "_law_make", .glo "_law_is_number", .glo "_law_no_ratio", .glo "least_of", .glo "greatest_of", .glo "read_number", .glo "_law_stands", .glo "_law_drawn", .glo "_law_no_quotient", .glo "_law_no_text", .glo "_law_alone", .glo "_law_texts", .glo "_law_values", .glo "_law_lists", .glo "law", .free "ValueError", .free "abs", .free "bool", .free "int", .free "isinstance", .free "len", .free "list", .free "range", .free "str", .free "tuple", .str "DIGITS" "0123456789", .int "MOST_DIGITS" 400, .glo "BadAhead", .glo "BadChance", .glo "BadClash", .glo "BadColour", .glo "BadCrossing", .glo "BadCut", .glo "BadDays", .glo "BadDeed", .glo "BadLine", .glo "BadLot", .glo "BadName", .glo "BadOrder", .glo "BadRule", .glo "BadSide", .glo "BadSize", .glo "BadSquare", .glo "BadStand", .glo "BadStep", .glo "BadStretch", .glo "BadText", .glo "BadWeb", .glo "BadWeight", .glo "BookError", .glo "CoarseBook", .glo "Crossing", .glo "EmptyRange", .glo "MixedModel", .glo "NoAnswer", .glo "NoCell", .glo "NoCut", .glo "NoDeed", .glo "NoEnd", .glo "NoLeast", .glo "NoStart", .glo "NotAnswer", .glo "NotBasis", .glo "NotBest", .glo "NotEntry", .glo "NotEven", .glo "NotPlain", .glo "NotPriced", .glo "NotRounding", .glo "NotTable", .glo "NotWhole", .glo "TooMany", .glo "TooWide", .glo "ZeroBottom", .exc "BadText", .exc "ZeroBottom", .exm "BadText" "BadText" true, .exm "BadText" "BookError" true, .exm "ZeroBottom" "BadText" false, .exm "ZeroBottom" "BookError" true, .exm "ZeroBottom" "ZeroBottom" true]
def xf : List Xf := [.bi "gcd" "math.gcd", .bi "lcm" "math.lcm", .xc "BadText", .xc "ZeroBottom", .kr "BadText" "BadAhead" false, .kr "BadText" "BadChance" false, .kr "BadText" "BadClash" false, .kr "BadText" "BadColour" false, .kr "BadText" "BadCrossing" false, .kr "BadText" "BadCut" false, .kr "BadText" "BadDays" false, .kr "BadText" "BadDeed" false, .kr "BadText" "BadLine" false, .kr "BadText" "BadLot" false, .kr "BadText" "BadName" false, .kr "BadText" "BadOrder" false, .kr "BadText" "BadRule" false, .kr "BadText" "BadSide" false, .kr "BadText" "BadSize" false, .kr "BadText" "BadSquare" false, .kr "BadText" "BadStand" false, .kr "BadText" "BadStep" false, .kr "BadText" "BadStretch" false, .kr "BadText" "BadText" true, .kr "BadText" "BadWeb" false, .kr "BadText" "BadWeight" false, .kr "BadText" "BookError" true, .kr "BadText" "CoarseBook" false, .kr "BadText" "Crossing" false, .kr "BadText" "EmptyRange" false, .kr "BadText" "MixedModel" false, .kr "BadText" "NoAnswer" false, .kr "BadText" "NoCell" false, .kr "BadText" "NoCut" false, .kr "BadText" "NoDeed" false, .kr "BadText" "NoEnd" false, .kr "BadText" "NoLeast" false, .kr "BadText" "NoStart" false, .kr "BadText" "NotAnswer" false, .kr "BadText" "NotBasis" false, .kr "BadText" "NotBest" false, .kr "BadText" "NotEntry" false, .kr "BadText" "NotEven" false, .kr "BadText" "NotPlain" false, .kr "BadText" "NotPriced" false, .kr "BadText" "NotRounding" false, .kr "BadText" "NotTable" false, .kr "BadText" "NotWhole" false, .kr "BadText" "TooMany" false, .kr "BadText" "TooWide" false, .kt "BadText" "ValueError" true, .kr "BadText" "ZeroBottom" false, .kr "ZeroBottom" "BadAhead" false, .kr "ZeroBottom" "BadChance" false, .kr "ZeroBottom" "BadClash" false, .kr "ZeroBottom" "BadColour" false, .kr "ZeroBottom" "BadCrossing" false, .kr "ZeroBottom" "BadCut" false, .kr "ZeroBottom" "BadDays" false, .kr "ZeroBottom" "BadDeed" false, .kr "ZeroBottom" "BadLine" false, .kr "ZeroBottom" "BadLot" false, .kr "ZeroBottom" "BadName" false, .kr "ZeroBottom" "BadOrder" false, .kr "ZeroBottom" "BadRule" false, .kr "ZeroBottom" "BadSide" false, .kr "ZeroBottom" "BadSize" false, .kr "ZeroBottom" "BadSquare" false, .kr "ZeroBottom" "BadStand" false, .kr "ZeroBottom" "BadStep" false, .kr "ZeroBottom" "BadStretch" false, .kr "ZeroBottom" "BadText" false, .kr "ZeroBottom" "BadWeb" false, .kr "ZeroBottom" "BadWeight" false, .kr "ZeroBottom" "BookError" true, .kr "ZeroBottom" "CoarseBook" false, .kr "ZeroBottom" "Crossing" false, .kr "ZeroBottom" "EmptyRange" false, .kr "ZeroBottom" "MixedModel" false, .kr "ZeroBottom" "NoAnswer" false, .kr "ZeroBottom" "NoCell" false, .kr "ZeroBottom" "NoCut" false, .kr "ZeroBottom" "NoDeed" false, .kr "ZeroBottom" "NoEnd" false, .kr "ZeroBottom" "NoLeast" false, .kr "ZeroBottom" "NoStart" false, .kr "ZeroBottom" "NotAnswer" false, .kr "ZeroBottom" "NotBasis" false, .kr "ZeroBottom" "NotBest" false, .kr "ZeroBottom" "NotEntry" false, .kr "ZeroBottom" "NotEven" false, .kr "ZeroBottom" "NotPlain" false, .kr "ZeroBottom" "NotPriced" false, .kr "ZeroBottom" "NotRounding" false, .kr "ZeroBottom" "NotTable" false, .kr "ZeroBottom" "NotWhole" false, .kr "ZeroBottom" "TooMany" false, .kr "ZeroBottom" "TooWide" false, .kt "ZeroBottom" "ValueError" true, .kr "ZeroBottom" "ZeroBottom" true]
def nm0 : List Str := ["BookError", "NoCell", "EmptyRange", "NoEnd", "NoStart", "NotEntry", "MixedModel", "TooWide", "TooMany", "CoarseBook", "NoAnswer", "NoLeast", "BadLine", "ZeroBottom", "BadName", "BadSize", "NotTable", "NotWhole", "NotAnswer", "BadText"]
def nm1 : List Str := ["BadStep", "NotBasis", "BadColour", "BadCrossing", "NotPlain", "BadSquare", "BadOrder", "BadWeb", "BadStretch", "Crossing", "BadSide", "BadClash", "BadWeight", "BadStand", "NotPriced", "BadRule", "NotBest", "NoCut", "BadCut", "BadAhead"]
def nm2 : List Str := ["NotRounding", "BadLot", "BadChance", "BadDays", "NotEven", "NoDeed", "BadDeed", "DIGITS", "MOST_DIGITS", "ratio", "is_whole", "top_of", "bottom_of", "plus", "minus", "times", "over", "less", "floor_of", "ceiling_of"]
def nm3 : List Str := ["nearest", "common_bottom", "least_of", "greatest_of", "number_text", "read_numeral", "read_number", "_law_cell", "_law_numbers", "_law_gcd", "_law_make", "_law_top", "_law_bottom", "_law_is_int", "_law_is_number", "_law_stands", "_law_drawn", "_law_no_text", "_law_no_ratio", "_law_no_quotient"]
def nm4 : List Str := ["_law_alone", "_law_texts", "_law_values", "_law_lists"]
def nm : List Str := nm0 ++ nm1 ++ nm2 ++ nm3 ++ nm4
abbrev R : PySem.W.OpenRow := PySem.W.OpenLaw.row PySem.Challenge.rw_stepscounted_k00_exact_numbers
abbrev hk : PySem.W.Hook := hookE 2 fa fn xf
def ob (s : PySem.W.SharedT) : AlE := obsEG 2 fa fn xf (HandSHeadRun.getT s)
theorem ob_eq (s : PySem.W.SharedT) : ob s = hk.obs s.abs := obsEG_eq (HandSHeadRun.getT_eq s)
noncomputable def E0 (w : World) : Option (Shared × PySem.W.SharedT) := HandSHeadRun.wholeF (fun p => HandSHeadRun.stepQ (HandSHeadRun.denQ HandSHeadRun.tabQ) p w) HandSHeadRun.fenceQ 20000 R.prog
theorem run1 (w : World) : (E0 w).map (fun x => HandSHeadRun.looksF R.prog x.1.heap x.2.abs) = some true := by kernel_rfl
theorem run2 (w : World) : (E0 w).map (fun x => HandSHeadRun.seenQ (PySem.W.view R.prog [0, 88]) nm (importedModules R.prog.main.body) (fun s => PySem.W.xlAt (PySem.W.view R.prog [0, 88]) [] s && PySem.W.recOk R.toRowW.records s) x.2.abs) = some (PySem.W.openGood (PySem.W.view R.prog [0, 88]) nm) := by kernel_rfl
theorem run3 (w : World) : (E0 w).map (fun x => fa.all fun f => f.ok (kf x.2)) = some true := by kernel_rfl
theorem run4 (w : World) : (E0 w).map (fun x => fn.all fun d => d.ok (kf x.2)) = some true := by kernel_rfl
theorem run5 (w : World) : (E0 w).map (fun x => fn.map fun d => He.fnW (kf x.2) d.at_) = some (fn.map He.DefD.val) := by kernel_rfl
theorem run6 (w : World) : (E0 w).map (fun x => exAll xf (kf x.2)) = some true := by kernel_rfl
theorem run (w : World) : HandSHeadRun.RunEqI R (PySem.W.view R.prog [0, 88]) hk ob 20000 nm w := by
  unfold HandSHeadRun.RunEqI
  exact run_join (o := E0 w) (run1 w) (run2 w) (run3 w) (run4 w) (run5 w) (run6 w)
end Hd
set_option Elab.async false
set_option linter.all false
set_option maxRecDepth 100000
set_option maxHeartbeats 2000000
namespace Lw
open PySem PySem.Spec PyProof.Rows L2 Pv Pw
def top (i : Nat) : Stmt := PySem.Challenge.pw_stepscounted_k00_exact_numbers.main.body.getD i (.Pass ⟨0, 0, 0, 0⟩)
structure Tab (P : Program) (w : World) (K : PySem.W.Frag) (mg : Str → Option Value) (base : Heap) : Prop where
  d_ratio : ∃ (f : Addr) (fd : FuncData), mg "ratio" = some (.ref f) ∧ FunD K "ratio" "ratio" (defArgs (top 52)) (defBody (top 52)) (defScope (top 52)) [] [] f fd
  d_is_whole : ∃ (f : Addr) (fd : FuncData), mg "is_whole" = some (.ref f) ∧ FunD K "is_whole" "is_whole" (defArgs (top 53)) (defBody (top 53)) (defScope (top 53)) [] [] f fd
  d_top_of : ∃ (f : Addr) (fd : FuncData), mg "top_of" = some (.ref f) ∧ FunD K "top_of" "top_of" (defArgs (top 54)) (defBody (top 54)) (defScope (top 54)) [] [] f fd
  d_bottom_of : ∃ (f : Addr) (fd : FuncData), mg "bottom_of" = some (.ref f) ∧ FunD K "bottom_of" "bottom_of" (defArgs (top 55)) (defBody (top 55)) (defScope (top 55)) [] [] f fd
  d_read_numeral : ∃ (f : Addr) (fd : FuncData), mg "read_numeral" = some (.ref f) ∧ FunD K "read_numeral" "read_numeral" (defArgs (top 68)) (defBody (top 68)) (defScope (top 68)) [] [] f fd
  d_UlawUcell : ∃ (f : Addr) (fd : FuncData), mg "_law_cell" = some (.ref f) ∧ FunD K "_law_cell" "_law_cell" (defArgs (top 71)) (defBody (top 71)) (defScope (top 71)) [] [] f fd
  d_UlawUgcd : ∃ (f : Addr) (fd : FuncData), mg "_law_gcd" = some (.ref f) ∧ FunD K "_law_gcd" "_law_gcd" (defArgs (top 73)) (defBody (top 73)) (defScope (top 73)) [] [] f fd
  d_UlawUtop : ∃ (f : Addr) (fd : FuncData), mg "_law_top" = some (.ref f) ∧ FunD K "_law_top" "_law_top" (defArgs (top 75)) (defBody (top 75)) (defScope (top 75)) [] [] f fd
  d_UlawUbottom : ∃ (f : Addr) (fd : FuncData), mg "_law_bottom" = some (.ref f) ∧ FunD K "_law_bottom" "_law_bottom" (defArgs (top 76)) (defBody (top 76)) (defScope (top 76)) [] [] f fd
  d_UlawUisUint : ∃ (f : Addr) (fd : FuncData), mg "_law_is_int" = some (.ref f) ∧ FunD K "_law_is_int" "_law_is_int" (defArgs (top 77)) (defBody (top 77)) (defScope (top 77)) [] [] f fd
  d_plus : ∃ (f : Addr) (fd : FuncData), mg "plus" = some (.ref f) ∧ FunD K "plus" "plus" (defArgs (top 56)) (defBody (top 56)) (defScope (top 56)) [] [] f fd
  d_minus : ∃ (f : Addr) (fd : FuncData), mg "minus" = some (.ref f) ∧ FunD K "minus" "minus" (defArgs (top 57)) (defBody (top 57)) (defScope (top 57)) [] [] f fd
  d_times : ∃ (f : Addr) (fd : FuncData), mg "times" = some (.ref f) ∧ FunD K "times" "times" (defArgs (top 58)) (defBody (top 58)) (defScope (top 58)) [] [] f fd
  d_over : ∃ (f : Addr) (fd : FuncData), mg "over" = some (.ref f) ∧ FunD K "over" "over" (defArgs (top 59)) (defBody (top 59)) (defScope (top 59)) [] [] f fd
  d_less : ∃ (f : Addr) (fd : FuncData), mg "less" = some (.ref f) ∧ FunD K "less" "less" (defArgs (top 60)) (defBody (top 60)) (defScope (top 60)) [] [] f fd
  d_floor_of : ∃ (f : Addr) (fd : FuncData), mg "floor_of" = some (.ref f) ∧ FunD K "floor_of" "floor_of" (defArgs (top 61)) (defBody (top 61)) (defScope (top 61)) [] [] f fd
  d_ceiling_of : ∃ (f : Addr) (fd : FuncData), mg "ceiling_of" = some (.ref f) ∧ FunD K "ceiling_of" "ceiling_of" (defArgs (top 62)) (defBody (top 62)) (defScope (top 62)) [] [] f fd
  d_nearest : ∃ (f : Addr) (fd : FuncData), mg "nearest" = some (.ref f) ∧ FunD K "nearest" "nearest" (defArgs (top 63)) (defBody (top 63)) (defScope (top 63)) [] [] f fd
  d_common_bottom : ∃ (f : Addr) (fd : FuncData), mg "common_bottom" = some (.ref f) ∧ FunD K "common_bottom" "common_bottom" (defArgs (top 64)) (defBody (top 64)) (defScope (top 64)) [] [] f fd
  d_number_text : ∃ (f : Addr) (fd : FuncData), mg "number_text" = some (.ref f) ∧ FunD K "number_text" "number_text" (defArgs (top 67)) (defBody (top 67)) (defScope (top 67)) [] [] f fd
  d_UlawUnumbers : ∃ (f : Addr) (fd : FuncData), mg "_law_numbers" = some (.ref f) ∧ FunD K "_law_numbers" "_law_numbers" (defArgs (top 72)) (defBody (top 72)) (defScope (top 72)) [] [] f fd
  d_UlawUmake : ∃ (f : Addr) (fd : FuncData), mg "_law_make" = some (.ref f) ∧ FunD K "_law_make" "_law_make" (defArgs (top 74)) (defBody (top 74)) (defScope (top 74)) [] [] f fd
  d_UlawUisUnumber : ∃ (f : Addr) (fd : FuncData), mg "_law_is_number" = some (.ref f) ∧ FunD K "_law_is_number" "_law_is_number" (defArgs (top 78)) (defBody (top 78)) (defScope (top 78)) [] [] f fd
  d_UlawUnoUratio : ∃ (f : Addr) (fd : FuncData), mg "_law_no_ratio" = some (.ref f) ∧ FunD K "_law_no_ratio" "_law_no_ratio" (defArgs (top 82)) (defBody (top 82)) (defScope (top 82)) [] [] f fd
  d_least_of : ∃ (f : Addr) (fd : FuncData), mg "least_of" = some (.ref f) ∧ FunD K "least_of" "least_of" (defArgs (top 65)) (defBody (top 65)) (defScope (top 65)) [] [] f fd
  d_greatest_of : ∃ (f : Addr) (fd : FuncData), mg "greatest_of" = some (.ref f) ∧ FunD K "greatest_of" "greatest_of" (defArgs (top 66)) (defBody (top 66)) (defScope (top 66)) [] [] f fd
  d_read_number : ∃ (f : Addr) (fd : FuncData), mg "read_number" = some (.ref f) ∧ FunD K "read_number" "read_number" (defArgs (top 69)) (defBody (top 69)) (defScope (top 69)) [] [] f fd
  d_UlawUstands : ∃ (f : Addr) (fd : FuncData), mg "_law_stands" = some (.ref f) ∧ FunD K "_law_stands" "_law_stands" (defArgs (top 79)) (defBody (top 79)) (defScope (top 79)) [] [] f fd
  d_UlawUdrawn : ∃ (f : Addr) (fd : FuncData), mg "_law_drawn" = some (.ref f) ∧ FunD K "_law_drawn" "_law_drawn" (defArgs (top 80)) (defBody (top 80)) (defScope (top 80)) [] [] f fd
  d_UlawUnoUquotient : ∃ (f : Addr) (fd : FuncData), mg "_law_no_quotient" = some (.ref f) ∧ FunD K "_law_no_quotient" "_law_no_quotient" (defArgs (top 83)) (defBody (top 83)) (defScope (top 83)) [] [] f fd
  d_UlawUnoUtext : ∃ (f : Addr) (fd : FuncData), mg "_law_no_text" = some (.ref f) ∧ FunD K "_law_no_text" "_law_no_text" (defArgs (top 81)) (defBody (top 81)) (defScope (top 81)) [] [] f fd
  d_UlawUalone : ∃ (f : Addr) (fd : FuncData), mg "_law_alone" = some (.ref f) ∧ FunD K "_law_alone" "_law_alone" (defArgs (top 84)) (defBody (top 84)) (defScope (top 84)) [] [] f fd
  d_UlawUtexts : ∃ (f : Addr) (fd : FuncData), mg "_law_texts" = some (.ref f) ∧ FunD K "_law_texts" "_law_texts" (defArgs (top 85)) (defBody (top 85)) (defScope (top 85)) [] [] f fd
  d_UlawUvalues : ∃ (f : Addr) (fd : FuncData), mg "_law_values" = some (.ref f) ∧ FunD K "_law_values" "_law_values" (defArgs (top 86)) (defBody (top 86)) (defScope (top 86)) [] [] f fd
  d_UlawUlists : ∃ (f : Addr) (fd : FuncData), mg "_law_lists" = some (.ref f) ∧ FunD K "_law_lists" "_law_lists" (defArgs (top 87)) (defBody (top 87)) (defScope (top 87)) [] [] f fd
  d_law : ∃ (f : Addr) (fd : FuncData), mg "law" = some (.ref f) ∧ FunD K "law" "law" (defArgs (top 88)) (defBody (top 88)) (defScope (top 88)) [] [] f fd
  b_ValueError : mg "ValueError" = none
  b_abs : mg "abs" = none
  b_bool : mg "bool" = none
  m_gcd : mg "gcd" = some (.builtin "math.gcd")
  b_int : mg "int" = none
  b_isinstance : mg "isinstance" = none
  m_lcm : mg "lcm" = some (.builtin "math.lcm")
  b_len : mg "len" = none
  b_list : mg "list" = none
  b_range : mg "range" = none
  b_str : mg "str" = none
  b_tuple : mg "tuple" = none
  g_DIGITS : ∃ t, mg "DIGITS" = some (.str "0123456789" t)
  g_MOST_DIGITS : ∃ t, mg "MOST_DIGITS" = some (.int 400 t)
  e_BadText : PySem.W.excIn K (He.ga K "BadText") He.veBase "ValueError.__new__" = true ∧ PySem.W.keepIn K (.ref (He.ga K "BadText")) = true ∧ PySem.W.subIn K (.ref (He.ga K "BadText")) (.type "BaseException") = some true ∧ PySem.W.typeIn K (.ref (He.ga K "BadText")) = some (.type "type")
  e_ZeroBottom : PySem.W.excIn K (He.ga K "ZeroBottom") He.veBase "ValueError.__new__" = true ∧ PySem.W.keepIn K (.ref (He.ga K "ZeroBottom")) = true ∧ PySem.W.subIn K (.ref (He.ga K "ZeroBottom")) (.type "BaseException") = some true ∧ PySem.W.typeIn K (.ref (He.ga K "ZeroBottom")) = some (.type "type")
  k_BadAhead : mg "BadAhead" = some (.ref (He.ga K "BadAhead"))
  k_BadChance : mg "BadChance" = some (.ref (He.ga K "BadChance"))
  k_BadClash : mg "BadClash" = some (.ref (He.ga K "BadClash"))
  k_BadColour : mg "BadColour" = some (.ref (He.ga K "BadColour"))
  k_BadCrossing : mg "BadCrossing" = some (.ref (He.ga K "BadCrossing"))
  k_BadCut : mg "BadCut" = some (.ref (He.ga K "BadCut"))
  k_BadDays : mg "BadDays" = some (.ref (He.ga K "BadDays"))
  k_BadDeed : mg "BadDeed" = some (.ref (He.ga K "BadDeed"))
  k_BadLine : mg "BadLine" = some (.ref (He.ga K "BadLine"))
  k_BadLot : mg "BadLot" = some (.ref (He.ga K "BadLot"))
  k_BadName : mg "BadName" = some (.ref (He.ga K "BadName"))
  k_BadOrder : mg "BadOrder" = some (.ref (He.ga K "BadOrder"))
  k_BadRule : mg "BadRule" = some (.ref (He.ga K "BadRule"))
  k_BadSide : mg "BadSide" = some (.ref (He.ga K "BadSide"))
  k_BadSize : mg "BadSize" = some (.ref (He.ga K "BadSize"))
  k_BadSquare : mg "BadSquare" = some (.ref (He.ga K "BadSquare"))
  k_BadStand : mg "BadStand" = some (.ref (He.ga K "BadStand"))
  k_BadStep : mg "BadStep" = some (.ref (He.ga K "BadStep"))
  k_BadStretch : mg "BadStretch" = some (.ref (He.ga K "BadStretch"))
  k_BadText : mg "BadText" = some (.ref (He.ga K "BadText"))
  k_BadWeb : mg "BadWeb" = some (.ref (He.ga K "BadWeb"))
  k_BadWeight : mg "BadWeight" = some (.ref (He.ga K "BadWeight"))
  k_BookError : mg "BookError" = some (.ref (He.ga K "BookError"))
  k_CoarseBook : mg "CoarseBook" = some (.ref (He.ga K "CoarseBook"))
  k_Crossing : mg "Crossing" = some (.ref (He.ga K "Crossing"))
  k_EmptyRange : mg "EmptyRange" = some (.ref (He.ga K "EmptyRange"))
  k_MixedModel : mg "MixedModel" = some (.ref (He.ga K "MixedModel"))
  k_NoAnswer : mg "NoAnswer" = some (.ref (He.ga K "NoAnswer"))
  k_NoCell : mg "NoCell" = some (.ref (He.ga K "NoCell"))
  k_NoCut : mg "NoCut" = some (.ref (He.ga K "NoCut"))
  k_NoDeed : mg "NoDeed" = some (.ref (He.ga K "NoDeed"))
  k_NoEnd : mg "NoEnd" = some (.ref (He.ga K "NoEnd"))
  k_NoLeast : mg "NoLeast" = some (.ref (He.ga K "NoLeast"))
  k_NoStart : mg "NoStart" = some (.ref (He.ga K "NoStart"))
  k_NotAnswer : mg "NotAnswer" = some (.ref (He.ga K "NotAnswer"))
  k_NotBasis : mg "NotBasis" = some (.ref (He.ga K "NotBasis"))
  k_NotBest : mg "NotBest" = some (.ref (He.ga K "NotBest"))
  k_NotEntry : mg "NotEntry" = some (.ref (He.ga K "NotEntry"))
  k_NotEven : mg "NotEven" = some (.ref (He.ga K "NotEven"))
  k_NotPlain : mg "NotPlain" = some (.ref (He.ga K "NotPlain"))
  k_NotPriced : mg "NotPriced" = some (.ref (He.ga K "NotPriced"))
  k_NotRounding : mg "NotRounding" = some (.ref (He.ga K "NotRounding"))
  k_NotTable : mg "NotTable" = some (.ref (He.ga K "NotTable"))
  k_NotWhole : mg "NotWhole" = some (.ref (He.ga K "NotWhole"))
  k_TooMany : mg "TooMany" = some (.ref (He.ga K "TooMany"))
  k_TooWide : mg "TooWide" = some (.ref (He.ga K "TooWide"))
  k_ZeroBottom : mg "ZeroBottom" = some (.ref (He.ga K "ZeroBottom"))
  xc_BadText : ExcC K (He.ga K "BadText")
  xc_ZeroBottom : ExcC K (He.ga K "ZeroBottom")
  x_BadText_BadText : PySem.W.exmOne K (cv K "BadText") (.ref (He.ga K "BadText")) = some true
  x_BadText_BookError : PySem.W.exmOne K (cv K "BadText") (.ref (He.ga K "BookError")) = some true
  x_ZeroBottom_BadText : PySem.W.exmOne K (cv K "ZeroBottom") (.ref (He.ga K "BadText")) = some false
  x_ZeroBottom_BookError : PySem.W.exmOne K (cv K "ZeroBottom") (.ref (He.ga K "BookError")) = some true
  x_ZeroBottom_ZeroBottom : PySem.W.exmOne K (cv K "ZeroBottom") (.ref (He.ga K "ZeroBottom")) = some true
  kit_BadText_BadAhead : PySem.W.kitOne K (cv K "BadText") (.ref (He.ga K "BadAhead")) = some false
  kit_BadText_BadChance : PySem.W.kitOne K (cv K "BadText") (.ref (He.ga K "BadChance")) = some false
  kit_BadText_BadClash : PySem.W.kitOne K (cv K "BadText") (.ref (He.ga K "BadClash")) = some false
  kit_BadText_BadColour : PySem.W.kitOne K (cv K "BadText") (.ref (He.ga K "BadColour")) = some false
  kit_BadText_BadCrossing : PySem.W.kitOne K (cv K "BadText") (.ref (He.ga K "BadCrossing")) = some false
  kit_BadText_BadCut : PySem.W.kitOne K (cv K "BadText") (.ref (He.ga K "BadCut")) = some false
  kit_BadText_BadDays : PySem.W.kitOne K (cv K "BadText") (.ref (He.ga K "BadDays")) = some false
  kit_BadText_BadDeed : PySem.W.kitOne K (cv K "BadText") (.ref (He.ga K "BadDeed")) = some false
  kit_BadText_BadLine : PySem.W.kitOne K (cv K "BadText") (.ref (He.ga K "BadLine")) = some false
  kit_BadText_BadLot : PySem.W.kitOne K (cv K "BadText") (.ref (He.ga K "BadLot")) = some false
  kit_BadText_BadName : PySem.W.kitOne K (cv K "BadText") (.ref (He.ga K "BadName")) = some false
  kit_BadText_BadOrder : PySem.W.kitOne K (cv K "BadText") (.ref (He.ga K "BadOrder")) = some false
  kit_BadText_BadRule : PySem.W.kitOne K (cv K "BadText") (.ref (He.ga K "BadRule")) = some false
  kit_BadText_BadSide : PySem.W.kitOne K (cv K "BadText") (.ref (He.ga K "BadSide")) = some false
  kit_BadText_BadSize : PySem.W.kitOne K (cv K "BadText") (.ref (He.ga K "BadSize")) = some false
  kit_BadText_BadSquare : PySem.W.kitOne K (cv K "BadText") (.ref (He.ga K "BadSquare")) = some false
  kit_BadText_BadStand : PySem.W.kitOne K (cv K "BadText") (.ref (He.ga K "BadStand")) = some false
  kit_BadText_BadStep : PySem.W.kitOne K (cv K "BadText") (.ref (He.ga K "BadStep")) = some false
  kit_BadText_BadStretch : PySem.W.kitOne K (cv K "BadText") (.ref (He.ga K "BadStretch")) = some false
  kit_BadText_BadText : PySem.W.kitOne K (cv K "BadText") (.ref (He.ga K "BadText")) = some true
  kit_BadText_BadWeb : PySem.W.kitOne K (cv K "BadText") (.ref (He.ga K "BadWeb")) = some false
  kit_BadText_BadWeight : PySem.W.kitOne K (cv K "BadText") (.ref (He.ga K "BadWeight")) = some false
  kit_BadText_BookError : PySem.W.kitOne K (cv K "BadText") (.ref (He.ga K "BookError")) = some true
  kit_BadText_CoarseBook : PySem.W.kitOne K (cv K "BadText") (.ref (He.ga K "CoarseBook")) = some false
  kit_BadText_Crossing : PySem.W.kitOne K (cv K "BadText") (.ref (He.ga K "Crossing")) = some false
  kit_BadText_EmptyRange : PySem.W.kitOne K (cv K "BadText") (.ref (He.ga K "EmptyRange")) = some false
  kit_BadText_MixedModel : PySem.W.kitOne K (cv K "BadText") (.ref (He.ga K "MixedModel")) = some false
  kit_BadText_NoAnswer : PySem.W.kitOne K (cv K "BadText") (.ref (He.ga K "NoAnswer")) = some false
  kit_BadText_NoCell : PySem.W.kitOne K (cv K "BadText") (.ref (He.ga K "NoCell")) = some false
  kit_BadText_NoCut : PySem.W.kitOne K (cv K "BadText") (.ref (He.ga K "NoCut")) = some false
  kit_BadText_NoDeed : PySem.W.kitOne K (cv K "BadText") (.ref (He.ga K "NoDeed")) = some false
  kit_BadText_NoEnd : PySem.W.kitOne K (cv K "BadText") (.ref (He.ga K "NoEnd")) = some false
  kit_BadText_NoLeast : PySem.W.kitOne K (cv K "BadText") (.ref (He.ga K "NoLeast")) = some false
  kit_BadText_NoStart : PySem.W.kitOne K (cv K "BadText") (.ref (He.ga K "NoStart")) = some false
  kit_BadText_NotAnswer : PySem.W.kitOne K (cv K "BadText") (.ref (He.ga K "NotAnswer")) = some false
  kit_BadText_NotBasis : PySem.W.kitOne K (cv K "BadText") (.ref (He.ga K "NotBasis")) = some false
  kit_BadText_NotBest : PySem.W.kitOne K (cv K "BadText") (.ref (He.ga K "NotBest")) = some false
  kit_BadText_NotEntry : PySem.W.kitOne K (cv K "BadText") (.ref (He.ga K "NotEntry")) = some false
  kit_BadText_NotEven : PySem.W.kitOne K (cv K "BadText") (.ref (He.ga K "NotEven")) = some false
  kit_BadText_NotPlain : PySem.W.kitOne K (cv K "BadText") (.ref (He.ga K "NotPlain")) = some false
  kit_BadText_NotPriced : PySem.W.kitOne K (cv K "BadText") (.ref (He.ga K "NotPriced")) = some false
  kit_BadText_NotRounding : PySem.W.kitOne K (cv K "BadText") (.ref (He.ga K "NotRounding")) = some false
  kit_BadText_NotTable : PySem.W.kitOne K (cv K "BadText") (.ref (He.ga K "NotTable")) = some false
  kit_BadText_NotWhole : PySem.W.kitOne K (cv K "BadText") (.ref (He.ga K "NotWhole")) = some false
  kit_BadText_TooMany : PySem.W.kitOne K (cv K "BadText") (.ref (He.ga K "TooMany")) = some false
  kit_BadText_TooWide : PySem.W.kitOne K (cv K "BadText") (.ref (He.ga K "TooWide")) = some false
  kit_BadText_ValueError : PySem.W.kitOne K (cv K "BadText") (.type "ValueError") = some true
  kit_BadText_ZeroBottom : PySem.W.kitOne K (cv K "BadText") (.ref (He.ga K "ZeroBottom")) = some false
  kit_ZeroBottom_BadAhead : PySem.W.kitOne K (cv K "ZeroBottom") (.ref (He.ga K "BadAhead")) = some false
  kit_ZeroBottom_BadChance : PySem.W.kitOne K (cv K "ZeroBottom") (.ref (He.ga K "BadChance")) = some false
  kit_ZeroBottom_BadClash : PySem.W.kitOne K (cv K "ZeroBottom") (.ref (He.ga K "BadClash")) = some false
  kit_ZeroBottom_BadColour : PySem.W.kitOne K (cv K "ZeroBottom") (.ref (He.ga K "BadColour")) = some false
  kit_ZeroBottom_BadCrossing : PySem.W.kitOne K (cv K "ZeroBottom") (.ref (He.ga K "BadCrossing")) = some false
  kit_ZeroBottom_BadCut : PySem.W.kitOne K (cv K "ZeroBottom") (.ref (He.ga K "BadCut")) = some false
  kit_ZeroBottom_BadDays : PySem.W.kitOne K (cv K "ZeroBottom") (.ref (He.ga K "BadDays")) = some false
  kit_ZeroBottom_BadDeed : PySem.W.kitOne K (cv K "ZeroBottom") (.ref (He.ga K "BadDeed")) = some false
  kit_ZeroBottom_BadLine : PySem.W.kitOne K (cv K "ZeroBottom") (.ref (He.ga K "BadLine")) = some false
  kit_ZeroBottom_BadLot : PySem.W.kitOne K (cv K "ZeroBottom") (.ref (He.ga K "BadLot")) = some false
  kit_ZeroBottom_BadName : PySem.W.kitOne K (cv K "ZeroBottom") (.ref (He.ga K "BadName")) = some false
  kit_ZeroBottom_BadOrder : PySem.W.kitOne K (cv K "ZeroBottom") (.ref (He.ga K "BadOrder")) = some false
  kit_ZeroBottom_BadRule : PySem.W.kitOne K (cv K "ZeroBottom") (.ref (He.ga K "BadRule")) = some false
  kit_ZeroBottom_BadSide : PySem.W.kitOne K (cv K "ZeroBottom") (.ref (He.ga K "BadSide")) = some false
  kit_ZeroBottom_BadSize : PySem.W.kitOne K (cv K "ZeroBottom") (.ref (He.ga K "BadSize")) = some false
  kit_ZeroBottom_BadSquare : PySem.W.kitOne K (cv K "ZeroBottom") (.ref (He.ga K "BadSquare")) = some false
  kit_ZeroBottom_BadStand : PySem.W.kitOne K (cv K "ZeroBottom") (.ref (He.ga K "BadStand")) = some false
  kit_ZeroBottom_BadStep : PySem.W.kitOne K (cv K "ZeroBottom") (.ref (He.ga K "BadStep")) = some false
  kit_ZeroBottom_BadStretch : PySem.W.kitOne K (cv K "ZeroBottom") (.ref (He.ga K "BadStretch")) = some false
  kit_ZeroBottom_BadText : PySem.W.kitOne K (cv K "ZeroBottom") (.ref (He.ga K "BadText")) = some false
  kit_ZeroBottom_BadWeb : PySem.W.kitOne K (cv K "ZeroBottom") (.ref (He.ga K "BadWeb")) = some false
  kit_ZeroBottom_BadWeight : PySem.W.kitOne K (cv K "ZeroBottom") (.ref (He.ga K "BadWeight")) = some false
  kit_ZeroBottom_BookError : PySem.W.kitOne K (cv K "ZeroBottom") (.ref (He.ga K "BookError")) = some true
  kit_ZeroBottom_CoarseBook : PySem.W.kitOne K (cv K "ZeroBottom") (.ref (He.ga K "CoarseBook")) = some false
  kit_ZeroBottom_Crossing : PySem.W.kitOne K (cv K "ZeroBottom") (.ref (He.ga K "Crossing")) = some false
  kit_ZeroBottom_EmptyRange : PySem.W.kitOne K (cv K "ZeroBottom") (.ref (He.ga K "EmptyRange")) = some false
  kit_ZeroBottom_MixedModel : PySem.W.kitOne K (cv K "ZeroBottom") (.ref (He.ga K "MixedModel")) = some false
  kit_ZeroBottom_NoAnswer : PySem.W.kitOne K (cv K "ZeroBottom") (.ref (He.ga K "NoAnswer")) = some false
  kit_ZeroBottom_NoCell : PySem.W.kitOne K (cv K "ZeroBottom") (.ref (He.ga K "NoCell")) = some false
  kit_ZeroBottom_NoCut : PySem.W.kitOne K (cv K "ZeroBottom") (.ref (He.ga K "NoCut")) = some false
  kit_ZeroBottom_NoDeed : PySem.W.kitOne K (cv K "ZeroBottom") (.ref (He.ga K "NoDeed")) = some false
  kit_ZeroBottom_NoEnd : PySem.W.kitOne K (cv K "ZeroBottom") (.ref (He.ga K "NoEnd")) = some false
  kit_ZeroBottom_NoLeast : PySem.W.kitOne K (cv K "ZeroBottom") (.ref (He.ga K "NoLeast")) = some false
  kit_ZeroBottom_NoStart : PySem.W.kitOne K (cv K "ZeroBottom") (.ref (He.ga K "NoStart")) = some false
  kit_ZeroBottom_NotAnswer : PySem.W.kitOne K (cv K "ZeroBottom") (.ref (He.ga K "NotAnswer")) = some false
  kit_ZeroBottom_NotBasis : PySem.W.kitOne K (cv K "ZeroBottom") (.ref (He.ga K "NotBasis")) = some false
  kit_ZeroBottom_NotBest : PySem.W.kitOne K (cv K "ZeroBottom") (.ref (He.ga K "NotBest")) = some false
  kit_ZeroBottom_NotEntry : PySem.W.kitOne K (cv K "ZeroBottom") (.ref (He.ga K "NotEntry")) = some false
  kit_ZeroBottom_NotEven : PySem.W.kitOne K (cv K "ZeroBottom") (.ref (He.ga K "NotEven")) = some false
  kit_ZeroBottom_NotPlain : PySem.W.kitOne K (cv K "ZeroBottom") (.ref (He.ga K "NotPlain")) = some false
  kit_ZeroBottom_NotPriced : PySem.W.kitOne K (cv K "ZeroBottom") (.ref (He.ga K "NotPriced")) = some false
  kit_ZeroBottom_NotRounding : PySem.W.kitOne K (cv K "ZeroBottom") (.ref (He.ga K "NotRounding")) = some false
  kit_ZeroBottom_NotTable : PySem.W.kitOne K (cv K "ZeroBottom") (.ref (He.ga K "NotTable")) = some false
  kit_ZeroBottom_NotWhole : PySem.W.kitOne K (cv K "ZeroBottom") (.ref (He.ga K "NotWhole")) = some false
  kit_ZeroBottom_TooMany : PySem.W.kitOne K (cv K "ZeroBottom") (.ref (He.ga K "TooMany")) = some false
  kit_ZeroBottom_TooWide : PySem.W.kitOne K (cv K "ZeroBottom") (.ref (He.ga K "TooWide")) = some false
  kit_ZeroBottom_ValueError : PySem.W.kitOne K (cv K "ZeroBottom") (.type "ValueError") = some true
  kit_ZeroBottom_ZeroBottom : PySem.W.kitOne K (cv K "ZeroBottom") (.ref (He.ga K "ZeroBottom")) = some true
section
variable {P : Program} {w : World} {K : PySem.W.Frag} {mg : Str → Option Value} {base : Heap}
def B_ratio : StF := sSeq (sIf (eBin oEq (eVar 1) (eC (.int 0))) (sRaise "ZeroBottom") (sNx)) (sSeq (sIf (eBin oLt (eVar 1) (eC (.int 0))) (sPar 0 1 (eUn uNeg (eVar 0)) (eUn uNeg (eVar 1))) (sNx)) (sSeq (sAsg 2 (eB2 oGcd (eVar 0) (eVar 1))) (sSeq (sIf (eBin oEq (eVar 2) (eVar 1)) (sRet (eBin oDiv (eVar 0) (eVar 2))) (sNx)) (sRet (eTup [eBin oDiv (eVar 0) (eVar 2), eBin oDiv (eVar 1) (eVar 2)])))))
def G_ratio : Gf := fnRun 2 3 B_ratio
abbrev N_ratio : List Str := ["top", "bottom", "common"]
theorem sc_ratio : FnScope N_ratio ["top", "bottom"] (defScope (top 52)) := ⟨rfl, rfl, rfl, by decide +kernel, rfl, by decide +kernel, by decide +kernel⟩
theorem ok_ratio (T : Tab P w K mg base) : FnS P w K mg base 1 "ratio" 2 G_ratio := by
  obtain ⟨f, fd, hm, F⟩ := T.d_ratio
  refine ⟨f, fd, ["top", "bottom"], hm, F.kp, F.bindsN fun _ _ _ _ _ _ us hl => (match us, hl with | [_, _], _ => rfl), rfl, fn_mk F sc_ratio fun cdv A outer s0 H E hr tk hp => ?_⟩
  exact sb_cons (ss_if (st_cmp (op_eqD hr.units) os_eq (se_var (pv 1)) (se_int) (nomark _)) (sb_one (ss_raise (L2N.ps_raise rfl tk (L2N.pmk_own PySem.F.excBase_ValueError T.e_ZeroBottom.1 T.k_ZeroBottom T.e_ZeroBottom.2.1 (raises_own T.e_ZeroBottom.2.2.1 T.e_ZeroBottom.2.2.2) (by exact rfl))))) (sb_nil)) (sb_cons (ss_if (st_cmp op_lt os_lt (se_var (pv 1)) (se_int) (nomark _)) (sb_one (ss_par (ps_par (i := 0) (j := 1) rfl sc_ratio.nd rfl rfl (by decide) rfl rfl (sa_cons (se_un un_neg us_neg (se_var (pv 0))) (sa_cons (se_un un_neg us_neg (se_var (pv 1))) sa_nil)) rfl))) (sb_nil)) (sb_cons (ss_asg (ps_set (i := 2) sc_ratio.nd rfl (Or.inl rfl) (ar2 (fun ta h => pe_callBfun cr_gcd rfl T.m_gcd h) cs_gcd (se_var (pv 0)) (se_var (pv 1))))) (sb_cons (ss_if (st_cmp (op_eqD hr.units) os_eq (se_var (pv 2)) (se_var (pv 1)) (nomark _)) (sb_one (ss_ret (se_bin op_divV os_div (se_var (pv 0)) (se_var (pv 2))))) (sb_nil)) (sb_one (ss_ret (se_tup (sa_cons (se_bin op_divV os_div (se_var (pv 0)) (se_var (pv 2))) (sa_cons (se_bin op_divV os_div (se_var (pv 1)) (se_var (pv 2))) (sa_nil)))))))))
def B_is_whole : StF := sRet (eNot (eB1 (bIs .tuple) (eVar 0)))
def G_is_whole : Gf := fnRun 1 1 B_is_whole
abbrev N_is_whole : List Str := ["number"]
theorem sc_is_whole : FnScope N_is_whole ["number"] (defScope (top 53)) := ⟨rfl, rfl, rfl, by decide +kernel, rfl, by decide +kernel, by decide +kernel⟩
theorem ok_is_whole (T : Tab P w K mg base) : FnS P w K mg base 1 "is_whole" 1 G_is_whole := by
  obtain ⟨f, fd, hm, F⟩ := T.d_is_whole
  refine ⟨f, fd, ["number"], hm, F.kp, F.bindsN fun _ _ _ _ _ _ us hl => (match us, hl with | [_], _ => rfl), rfl, fn_mk F sc_is_whole fun cdv A outer s0 H E hr tk hp => ?_⟩
  exact sb_one (ss_ret (se_not (se_is (t := .tuple) rfl T.b_isinstance (se_var (pv 0)) (pe_bltn rfl T.b_tuple (by decide +kernel) rfl))))
def B_top_of : StF := sSeq (sIf (eB1 (bIs .tuple) (eVar 0)) (sRet (eBin oIx (eVar 0) (eC (.int 0)))) (sNx)) (sRetV 0)
def G_top_of : Gf := fnRun 1 1 B_top_of
abbrev N_top_of : List Str := ["number"]
theorem sc_top_of : FnScope N_top_of ["number"] (defScope (top 54)) := ⟨rfl, rfl, rfl, by decide +kernel, rfl, by decide +kernel, by decide +kernel⟩
theorem ok_top_of (T : Tab P w K mg base) : FnS P w K mg base 1 "top_of" 1 G_top_of := by
  obtain ⟨f, fd, hm, F⟩ := T.d_top_of
  refine ⟨f, fd, ["number"], hm, F.kp, F.bindsN fun _ _ _ _ _ _ us hl => (match us, hl with | [_], _ => rfl), rfl, fn_mk F sc_top_of fun cdv A outer s0 H E hr tk hp => ?_⟩
  exact sb_cons (ss_if (st_val (se_is (t := .tuple) rfl T.b_isinstance (se_var (pv 0)) (pe_bltn rfl T.b_tuple (by decide +kernel) rfl))) (sb_one (ss_ret (se_ix ix_seq os_ix (se_var (pv 0)) (se_int) (fun _ _ => rfl)))) (sb_nil)) (sb_one (ss_retV (pv 0)))
def B_bottom_of : StF := sSeq (sIf (eB1 (bIs .tuple) (eVar 0)) (sRet (eBin oIx (eVar 0) (eC (.int 1)))) (sNx)) (sRet (eC (.int 1)))
def G_bottom_of : Gf := fnRun 1 1 B_bottom_of
abbrev N_bottom_of : List Str := ["number"]
theorem sc_bottom_of : FnScope N_bottom_of ["number"] (defScope (top 55)) := ⟨rfl, rfl, rfl, by decide +kernel, rfl, by decide +kernel, by decide +kernel⟩
theorem ok_bottom_of (T : Tab P w K mg base) : FnS P w K mg base 1 "bottom_of" 1 G_bottom_of := by
  obtain ⟨f, fd, hm, F⟩ := T.d_bottom_of
  refine ⟨f, fd, ["number"], hm, F.kp, F.bindsN fun _ _ _ _ _ _ us hl => (match us, hl with | [_], _ => rfl), rfl, fn_mk F sc_bottom_of fun cdv A outer s0 H E hr tk hp => ?_⟩
  exact sb_cons (ss_if (st_val (se_is (t := .tuple) rfl T.b_isinstance (se_var (pv 0)) (pe_bltn rfl T.b_tuple (by decide +kernel) rfl))) (sb_one (ss_ret (se_ix ix_seq os_ix (se_var (pv 0)) (se_int) (fun _ _ => rfl)))) (sb_nil)) (sb_one (ss_ret (se_int)))
def B_read_numeral : StF := sSeq (sIf (eOr (eBin oEq (eVar 0) (eC (.str ""))) (eBin oGt (eB1 bLen (eVar 0)) (eC (.int 400)))) (sRaise "BadText") (sNx)) (sSeq (sFor (srS (eVar 0)) (tgN 1) (sIf (eBin oNotInS (eVar 1) (eC (.str "0123456789"))) (sRaise "BadText") (sNx))) (sRet (eB1 bIntT (eVar 0))))
def G_read_numeral : Gf := fnRun 1 2 B_read_numeral
abbrev N_read_numeral : List Str := ["text", "char"]
theorem sc_read_numeral : FnScope N_read_numeral ["text"] (defScope (top 68)) := ⟨rfl, rfl, rfl, by decide +kernel, rfl, by decide +kernel, by decide +kernel⟩
theorem ok_read_numeral (T : Tab P w K mg base) : FnS P w K mg base 1 "read_numeral" 1 G_read_numeral := by
  obtain ⟨f, fd, hm, F⟩ := T.d_read_numeral
  refine ⟨f, fd, ["text"], hm, F.kp, F.bindsN fun _ _ _ _ _ _ us hl => (match us, hl with | [_], _ => rfl), rfl, fn_mk F sc_read_numeral fun cdv A outer s0 H E hr tk hp => ?_⟩
  exact sb_cons (ss_if (st_w (sw_or (st_cmp (op_eqD hr.units) os_eq (se_var (pv 0)) (se_str) (nomark _)) (sw_or1 (st_cmp op_gt os_gt (ar1 (fun ta h => pe_callB call_len rfl T.b_len boot_len h) cs_len (se_var (pv 0))) (se_gint rfl T.g_MOST_DIGITS) (nomark _))))) (sb_one (ss_raise (L2N.ps_raise rfl tk (L2N.pmk_own PySem.F.excBase_ValueError T.e_BadText.1 T.k_BadText T.e_BadText.2.1 (raises_own T.e_BadText.2.2.1 T.e_BadText.2.2.2) (by exact rfl))))) (sb_nil)) (sb_cons (ss_for hp rfl (si_str (se_var (pv 0))) (pg_name sc_read_numeral.nd rfl (Or.inl rfl)) tgs_n (sb_one (ss_if (st_cmp op_notIn_sign os_notInS (se_var (pv 1)) (se_gstr rfl T.g_DIGITS) (by rfl)) (sb_one (ss_raise (L2N.ps_raise rfl tk (L2N.pmk_own PySem.F.excBase_ValueError T.e_BadText.1 T.k_BadText T.e_BadText.2.1 (raises_own T.e_BadText.2.2.1 T.e_BadText.2.2.2) (by exact rfl))))) (sb_nil)))) (sb_one (ss_ret (ar1 (fun ta h => pe_callTy call_int_str rfl T.b_int (by decide +kernel) h) cs_intT (se_var (pv 0))))))
def B_UlawUcell : StF := sSeq (sIf (eBin oLt (eVar 1) (eB1 bLen (eVar 0))) (sRet (eBin oIx (eVar 0) (eVar 1))) (sNx)) (sRet (eC (.int 0)))
def G_UlawUcell : Gf := fnRun 2 2 B_UlawUcell
abbrev N_UlawUcell : List Str := ["script", "k"]
theorem sc_UlawUcell : FnScope N_UlawUcell ["script", "k"] (defScope (top 71)) := ⟨rfl, rfl, rfl, by decide +kernel, rfl, by decide +kernel, by decide +kernel⟩
theorem ok_UlawUcell (T : Tab P w K mg base) : FnS P w K mg base 1 "_law_cell" 2 G_UlawUcell := by
  obtain ⟨f, fd, hm, F⟩ := T.d_UlawUcell
  refine ⟨f, fd, ["script", "k"], hm, F.kp, F.bindsN fun _ _ _ _ _ _ us hl => (match us, hl with | [_, _], _ => rfl), rfl, fn_mk F sc_UlawUcell fun cdv A outer s0 H E hr tk hp => ?_⟩
  exact sb_cons (ss_if (st_cmp op_lt os_lt (se_var (pv 1)) (ar1 (fun ta h => pe_callB call_len rfl T.b_len boot_len h) cs_len (se_var (pv 0))) (nomark _)) (sb_one (ss_ret (se_ix ix_seq os_ix (se_var (pv 0)) (se_var (pv 1)) (fun _ _ => rfl)))) (sb_nil)) (sb_one (ss_ret (se_int)))
def B_UlawUgcd : StF := sSeq (sAsg 0 (eB1 bAbs (eVar 0))) (sSeq (sAsg 1 (eB1 bAbs (eVar 1))) (sSeq (sFor (srR1 (eC (.int 2000))) (tgN 2) (sSeq (sIf (eBin oEq (eVar 1) (eC (.int 0))) (sBrk) (sNx)) (sPar 0 1 (eVar 1) (eBin oMod (eB1 bInt (eVar 0)) (eVar 1))))) (sRetV 0)))
def G_UlawUgcd : Gf := fnRun 2 3 B_UlawUgcd
abbrev N_UlawUgcd : List Str := ["one", "other", "k"]
theorem sc_UlawUgcd : FnScope N_UlawUgcd ["one", "other"] (defScope (top 73)) := ⟨rfl, rfl, rfl, by decide +kernel, rfl, by decide +kernel, by decide +kernel⟩
theorem ok_UlawUgcd (T : Tab P w K mg base) : FnS P w K mg base 1 "_law_gcd" 2 G_UlawUgcd := by
  obtain ⟨f, fd, hm, F⟩ := T.d_UlawUgcd
  refine ⟨f, fd, ["one", "other"], hm, F.kp, F.bindsN fun _ _ _ _ _ _ us hl => (match us, hl with | [_, _], _ => rfl), rfl, fn_mk F sc_UlawUgcd fun cdv A outer s0 H E hr tk hp => ?_⟩
  exact sb_cons (ss_asg (ps_set (i := 0) sc_UlawUgcd.nd rfl (Or.inl rfl) (ar1 (fun ta h => pe_callB call_abs rfl T.b_abs (by decide +kernel) h) cs_abs (se_var (pv 0))))) (sb_cons (ss_asg (ps_set (i := 1) sc_UlawUgcd.nd rfl (Or.inl rfl) (ar1 (fun ta h => pe_callB call_abs rfl T.b_abs (by decide +kernel) h) cs_abs (se_var (pv 1))))) (sb_cons (ss_for hp rfl (si_r1 rfl T.b_range (se_int)) (pg_name sc_UlawUgcd.nd rfl (Or.inl rfl)) tgs_n (sb_cons (ss_if (st_cmp (op_eqD hr.units) os_eq (se_var (pv 1)) (se_int) (nomark _)) (sb_one (ss_brk)) (sb_nil)) (sb_one (ss_par (ps_par (i := 0) (j := 1) rfl sc_UlawUgcd.nd rfl rfl (by decide) rfl rfl (sa_cons (se_var (pv 1)) (sa_cons (se_bin op_modN os_mod (ar1 (fun ta h => pe_callTy call_int1 rfl T.b_int (by decide +kernel) h) cs_int (se_var (pv 0))) (se_var (pv 1))) sa_nil)) rfl))))) (sb_one (ss_retV (pv 0)))))
def B_UlawUtop : StF := sSeq (sIf (eB1 (bIs .tuple) (eVar 0)) (sRet (eBin oIx (eVar 0) (eC (.int 0)))) (sNx)) (sRetV 0)
def G_UlawUtop : Gf := fnRun 1 1 B_UlawUtop
abbrev N_UlawUtop : List Str := ["x"]
theorem sc_UlawUtop : FnScope N_UlawUtop ["x"] (defScope (top 75)) := ⟨rfl, rfl, rfl, by decide +kernel, rfl, by decide +kernel, by decide +kernel⟩
theorem ok_UlawUtop (T : Tab P w K mg base) : FnS P w K mg base 1 "_law_top" 1 G_UlawUtop := by
  obtain ⟨f, fd, hm, F⟩ := T.d_UlawUtop
  refine ⟨f, fd, ["x"], hm, F.kp, F.bindsN fun _ _ _ _ _ _ us hl => (match us, hl with | [_], _ => rfl), rfl, fn_mk F sc_UlawUtop fun cdv A outer s0 H E hr tk hp => ?_⟩
  exact sb_cons (ss_if (st_val (se_is (t := .tuple) rfl T.b_isinstance (se_var (pv 0)) (pe_bltn rfl T.b_tuple (by decide +kernel) rfl))) (sb_one (ss_ret (se_ix ix_seq os_ix (se_var (pv 0)) (se_int) (fun _ _ => rfl)))) (sb_nil)) (sb_one (ss_retV (pv 0)))
def B_UlawUbottom : StF := sSeq (sIf (eB1 (bIs .tuple) (eVar 0)) (sRet (eBin oIx (eVar 0) (eC (.int 1)))) (sNx)) (sRet (eC (.int 1)))
def G_UlawUbottom : Gf := fnRun 1 1 B_UlawUbottom
abbrev N_UlawUbottom : List Str := ["x"]
theorem sc_UlawUbottom : FnScope N_UlawUbottom ["x"] (defScope (top 76)) := ⟨rfl, rfl, rfl, by decide +kernel, rfl, by decide +kernel, by decide +kernel⟩
theorem ok_UlawUbottom (T : Tab P w K mg base) : FnS P w K mg base 1 "_law_bottom" 1 G_UlawUbottom := by
  obtain ⟨f, fd, hm, F⟩ := T.d_UlawUbottom
  refine ⟨f, fd, ["x"], hm, F.kp, F.bindsN fun _ _ _ _ _ _ us hl => (match us, hl with | [_], _ => rfl), rfl, fn_mk F sc_UlawUbottom fun cdv A outer s0 H E hr tk hp => ?_⟩
  exact sb_cons (ss_if (st_val (se_is (t := .tuple) rfl T.b_isinstance (se_var (pv 0)) (pe_bltn rfl T.b_tuple (by decide +kernel) rfl))) (sb_one (ss_ret (se_ix ix_seq os_ix (se_var (pv 0)) (se_int) (fun _ _ => rfl)))) (sb_nil)) (sb_one (ss_ret (se_int)))
def B_UlawUisUint : StF := sRet (eAnd (eB1 (bIs .int) (eVar 0)) (eNot (eB1 (bIs .bool) (eVar 0))))
def G_UlawUisUint : Gf := fnRun 1 1 B_UlawUisUint
abbrev N_UlawUisUint : List Str := ["x"]
theorem sc_UlawUisUint : FnScope N_UlawUisUint ["x"] (defScope (top 77)) := ⟨rfl, rfl, rfl, by decide +kernel, rfl, by decide +kernel, by decide +kernel⟩
theorem ok_UlawUisUint (T : Tab P w K mg base) : FnS P w K mg base 1 "_law_is_int" 1 G_UlawUisUint := by
  obtain ⟨f, fd, hm, F⟩ := T.d_UlawUisUint
  refine ⟨f, fd, ["x"], hm, F.kp, F.bindsN fun _ _ _ _ _ _ us hl => (match us, hl with | [_], _ => rfl), rfl, fn_mk F sc_UlawUisUint fun cdv A outer s0 H E hr tk hp => ?_⟩
  exact sb_one (ss_ret (se_and (se_is (t := .int) rfl T.b_isinstance (se_var (pv 0)) (pe_bltn rfl T.b_int (by decide +kernel) rfl)) (se_one (se_not (se_is (t := .bool) rfl T.b_isinstance (se_var (pv 0)) (pe_bltn rfl T.b_bool (by decide +kernel) rfl))))))
def B_plus : StF := sSeq (sIf (eAnd (eCall G_is_whole [eVar 0]) (eCall G_is_whole [eVar 1])) (sRet (eBin oAdd (eVar 0) (eVar 1))) (sNx)) (sRet (eCall G_ratio [eBin oAdd (eBin oMulV (eCall G_top_of [eVar 0]) (eCall G_bottom_of [eVar 1])) (eBin oMulV (eCall G_top_of [eVar 1]) (eCall G_bottom_of [eVar 0])), eBin oMulV (eCall G_bottom_of [eVar 0]) (eCall G_bottom_of [eVar 1])]))
def G_plus : Gf := fnRun 2 2 B_plus
abbrev N_plus : List Str := ["x", "y"]
theorem sc_plus : FnScope N_plus ["x", "y"] (defScope (top 56)) := ⟨rfl, rfl, rfl, by decide +kernel, rfl, by decide +kernel, by decide +kernel⟩
theorem ok_plus (T : Tab P w K mg base) : FnS P w K mg base 2 "plus" 2 G_plus := by
  have C_bottom_of := ok_bottom_of T
  have C_is_whole := ok_is_whole T
  have C_ratio := ok_ratio T
  have C_top_of := ok_top_of T
  obtain ⟨f, fd, hm, F⟩ := T.d_plus
  refine ⟨f, fd, ["x", "y"], hm, F.kp, F.bindsN fun _ _ _ _ _ _ us hl => (match us, hl with | [_, _], _ => rfl), rfl, fn_mk F sc_plus fun cdv A outer s0 H E hr tk hp => ?_⟩
  exact sb_cons (ss_if (st_w (sw_and (st_val (se_call C_is_whole (hr.mono (by decide)) tk rfl rfl (sa_cons (se_var (pv 0)) (sa_nil)))) (sw_and1 (st_val (se_call C_is_whole (hr.mono (by decide)) tk rfl rfl (sa_cons (se_var (pv 1)) (sa_nil))))))) (sb_one (ss_ret (se_bin op_addV os_add (se_var (pv 0)) (se_var (pv 1))))) (sb_nil)) (sb_one (ss_ret (se_call C_ratio (hr.mono (by decide)) tk rfl rfl (sa_cons (se_bin op_addV os_add (se_bin op_mulV os_mulV (se_call C_top_of (hr.mono (by decide)) tk rfl rfl (sa_cons (se_var (pv 0)) (sa_nil))) (se_call C_bottom_of (hr.mono (by decide)) tk rfl rfl (sa_cons (se_var (pv 1)) (sa_nil)))) (se_bin op_mulV os_mulV (se_call C_top_of (hr.mono (by decide)) tk rfl rfl (sa_cons (se_var (pv 1)) (sa_nil))) (se_call C_bottom_of (hr.mono (by decide)) tk rfl rfl (sa_cons (se_var (pv 0)) (sa_nil))))) (sa_cons (se_bin op_mulV os_mulV (se_call C_bottom_of (hr.mono (by decide)) tk rfl rfl (sa_cons (se_var (pv 0)) (sa_nil))) (se_call C_bottom_of (hr.mono (by decide)) tk rfl rfl (sa_cons (se_var (pv 1)) (sa_nil)))) (sa_nil))))))
def B_minus : StF := sSeq (sIf (eAnd (eCall G_is_whole [eVar 0]) (eCall G_is_whole [eVar 1])) (sRet (eBin oSub (eVar 0) (eVar 1))) (sNx)) (sRet (eCall G_ratio [eBin oSub (eBin oMulV (eCall G_top_of [eVar 0]) (eCall G_bottom_of [eVar 1])) (eBin oMulV (eCall G_top_of [eVar 1]) (eCall G_bottom_of [eVar 0])), eBin oMulV (eCall G_bottom_of [eVar 0]) (eCall G_bottom_of [eVar 1])]))
def G_minus : Gf := fnRun 2 2 B_minus
abbrev N_minus : List Str := ["x", "y"]
theorem sc_minus : FnScope N_minus ["x", "y"] (defScope (top 57)) := ⟨rfl, rfl, rfl, by decide +kernel, rfl, by decide +kernel, by decide +kernel⟩
theorem ok_minus (T : Tab P w K mg base) : FnS P w K mg base 2 "minus" 2 G_minus := by
  have C_bottom_of := ok_bottom_of T
  have C_is_whole := ok_is_whole T
  have C_ratio := ok_ratio T
  have C_top_of := ok_top_of T
  obtain ⟨f, fd, hm, F⟩ := T.d_minus
  refine ⟨f, fd, ["x", "y"], hm, F.kp, F.bindsN fun _ _ _ _ _ _ us hl => (match us, hl with | [_, _], _ => rfl), rfl, fn_mk F sc_minus fun cdv A outer s0 H E hr tk hp => ?_⟩
  exact sb_cons (ss_if (st_w (sw_and (st_val (se_call C_is_whole (hr.mono (by decide)) tk rfl rfl (sa_cons (se_var (pv 0)) (sa_nil)))) (sw_and1 (st_val (se_call C_is_whole (hr.mono (by decide)) tk rfl rfl (sa_cons (se_var (pv 1)) (sa_nil))))))) (sb_one (ss_ret (se_bin op_sub os_sub (se_var (pv 0)) (se_var (pv 1))))) (sb_nil)) (sb_one (ss_ret (se_call C_ratio (hr.mono (by decide)) tk rfl rfl (sa_cons (se_bin op_sub os_sub (se_bin op_mulV os_mulV (se_call C_top_of (hr.mono (by decide)) tk rfl rfl (sa_cons (se_var (pv 0)) (sa_nil))) (se_call C_bottom_of (hr.mono (by decide)) tk rfl rfl (sa_cons (se_var (pv 1)) (sa_nil)))) (se_bin op_mulV os_mulV (se_call C_top_of (hr.mono (by decide)) tk rfl rfl (sa_cons (se_var (pv 1)) (sa_nil))) (se_call C_bottom_of (hr.mono (by decide)) tk rfl rfl (sa_cons (se_var (pv 0)) (sa_nil))))) (sa_cons (se_bin op_mulV os_mulV (se_call C_bottom_of (hr.mono (by decide)) tk rfl rfl (sa_cons (se_var (pv 0)) (sa_nil))) (se_call C_bottom_of (hr.mono (by decide)) tk rfl rfl (sa_cons (se_var (pv 1)) (sa_nil)))) (sa_nil))))))
def B_times : StF := sSeq (sIf (eAnd (eCall G_is_whole [eVar 0]) (eCall G_is_whole [eVar 1])) (sRet (eBin oMulV (eVar 0) (eVar 1))) (sNx)) (sRet (eCall G_ratio [eBin oMulV (eCall G_top_of [eVar 0]) (eCall G_top_of [eVar 1]), eBin oMulV (eCall G_bottom_of [eVar 0]) (eCall G_bottom_of [eVar 1])]))
def G_times : Gf := fnRun 2 2 B_times
abbrev N_times : List Str := ["x", "y"]
theorem sc_times : FnScope N_times ["x", "y"] (defScope (top 58)) := ⟨rfl, rfl, rfl, by decide +kernel, rfl, by decide +kernel, by decide +kernel⟩
theorem ok_times (T : Tab P w K mg base) : FnS P w K mg base 2 "times" 2 G_times := by
  have C_bottom_of := ok_bottom_of T
  have C_is_whole := ok_is_whole T
  have C_ratio := ok_ratio T
  have C_top_of := ok_top_of T
  obtain ⟨f, fd, hm, F⟩ := T.d_times
  refine ⟨f, fd, ["x", "y"], hm, F.kp, F.bindsN fun _ _ _ _ _ _ us hl => (match us, hl with | [_, _], _ => rfl), rfl, fn_mk F sc_times fun cdv A outer s0 H E hr tk hp => ?_⟩
  exact sb_cons (ss_if (st_w (sw_and (st_val (se_call C_is_whole (hr.mono (by decide)) tk rfl rfl (sa_cons (se_var (pv 0)) (sa_nil)))) (sw_and1 (st_val (se_call C_is_whole (hr.mono (by decide)) tk rfl rfl (sa_cons (se_var (pv 1)) (sa_nil))))))) (sb_one (ss_ret (se_bin op_mulV os_mulV (se_var (pv 0)) (se_var (pv 1))))) (sb_nil)) (sb_one (ss_ret (se_call C_ratio (hr.mono (by decide)) tk rfl rfl (sa_cons (se_bin op_mulV os_mulV (se_call C_top_of (hr.mono (by decide)) tk rfl rfl (sa_cons (se_var (pv 0)) (sa_nil))) (se_call C_top_of (hr.mono (by decide)) tk rfl rfl (sa_cons (se_var (pv 1)) (sa_nil)))) (sa_cons (se_bin op_mulV os_mulV (se_call C_bottom_of (hr.mono (by decide)) tk rfl rfl (sa_cons (se_var (pv 0)) (sa_nil))) (se_call C_bottom_of (hr.mono (by decide)) tk rfl rfl (sa_cons (se_var (pv 1)) (sa_nil)))) (sa_nil))))))
def B_over : StF := sSeq (sIf (eBin oEq (eCall G_top_of [eVar 1]) (eC (.int 0))) (sRaise "ZeroBottom") (sNx)) (sRet (eCall G_ratio [eBin oMulV (eCall G_top_of [eVar 0]) (eCall G_bottom_of [eVar 1]), eBin oMulV (eCall G_bottom_of [eVar 0]) (eCall G_top_of [eVar 1])]))
def G_over : Gf := fnRun 2 2 B_over
abbrev N_over : List Str := ["x", "y"]
theorem sc_over : FnScope N_over ["x", "y"] (defScope (top 59)) := ⟨rfl, rfl, rfl, by decide +kernel, rfl, by decide +kernel, by decide +kernel⟩
theorem ok_over (T : Tab P w K mg base) : FnS P w K mg base 2 "over" 2 G_over := by
  have C_bottom_of := ok_bottom_of T
  have C_ratio := ok_ratio T
  have C_top_of := ok_top_of T
  obtain ⟨f, fd, hm, F⟩ := T.d_over
  refine ⟨f, fd, ["x", "y"], hm, F.kp, F.bindsN fun _ _ _ _ _ _ us hl => (match us, hl with | [_, _], _ => rfl), rfl, fn_mk F sc_over fun cdv A outer s0 H E hr tk hp => ?_⟩
  exact sb_cons (ss_if (st_cmp (op_eqD hr.units) os_eq (se_call C_top_of (hr.mono (by decide)) tk rfl rfl (sa_cons (se_var (pv 1)) (sa_nil))) (se_int) (nomark _)) (sb_one (ss_raise (L2N.ps_raise rfl tk (L2N.pmk_own PySem.F.excBase_ValueError T.e_ZeroBottom.1 T.k_ZeroBottom T.e_ZeroBottom.2.1 (raises_own T.e_ZeroBottom.2.2.1 T.e_ZeroBottom.2.2.2) (by exact rfl))))) (sb_nil)) (sb_one (ss_ret (se_call C_ratio (hr.mono (by decide)) tk rfl rfl (sa_cons (se_bin op_mulV os_mulV (se_call C_top_of (hr.mono (by decide)) tk rfl rfl (sa_cons (se_var (pv 0)) (sa_nil))) (se_call C_bottom_of (hr.mono (by decide)) tk rfl rfl (sa_cons (se_var (pv 1)) (sa_nil)))) (sa_cons (se_bin op_mulV os_mulV (se_call C_bottom_of (hr.mono (by decide)) tk rfl rfl (sa_cons (se_var (pv 0)) (sa_nil))) (se_call C_top_of (hr.mono (by decide)) tk rfl rfl (sa_cons (se_var (pv 1)) (sa_nil)))) (sa_nil))))))
def B_less : StF := sRet (eBin oLt (eBin oMulV (eCall G_top_of [eVar 0]) (eCall G_bottom_of [eVar 1])) (eBin oMulV (eCall G_top_of [eVar 1]) (eCall G_bottom_of [eVar 0])))
def G_less : Gf := fnRun 2 2 B_less
abbrev N_less : List Str := ["x", "y"]
theorem sc_less : FnScope N_less ["x", "y"] (defScope (top 60)) := ⟨rfl, rfl, rfl, by decide +kernel, rfl, by decide +kernel, by decide +kernel⟩
theorem ok_less (T : Tab P w K mg base) : FnS P w K mg base 2 "less" 2 G_less := by
  have C_bottom_of := ok_bottom_of T
  have C_top_of := ok_top_of T
  obtain ⟨f, fd, hm, F⟩ := T.d_less
  refine ⟨f, fd, ["x", "y"], hm, F.kp, F.bindsN fun _ _ _ _ _ _ us hl => (match us, hl with | [_, _], _ => rfl), rfl, fn_mk F sc_less fun cdv A outer s0 H E hr tk hp => ?_⟩
  exact sb_one (ss_ret (se_cmp op_lt os_lt (se_bin op_mulV os_mulV (se_call C_top_of (hr.mono (by decide)) tk rfl rfl (sa_cons (se_var (pv 0)) (sa_nil))) (se_call C_bottom_of (hr.mono (by decide)) tk rfl rfl (sa_cons (se_var (pv 1)) (sa_nil)))) (se_bin op_mulV os_mulV (se_call C_top_of (hr.mono (by decide)) tk rfl rfl (sa_cons (se_var (pv 1)) (sa_nil))) (se_call C_bottom_of (hr.mono (by decide)) tk rfl rfl (sa_cons (se_var (pv 0)) (sa_nil)))) (nomark _)))
def B_floor_of : StF := sRet (eBin oDiv (eCall G_top_of [eVar 0]) (eCall G_bottom_of [eVar 0]))
def G_floor_of : Gf := fnRun 1 1 B_floor_of
abbrev N_floor_of : List Str := ["number"]
theorem sc_floor_of : FnScope N_floor_of ["number"] (defScope (top 61)) := ⟨rfl, rfl, rfl, by decide +kernel, rfl, by decide +kernel, by decide +kernel⟩
theorem ok_floor_of (T : Tab P w K mg base) : FnS P w K mg base 2 "floor_of" 1 G_floor_of := by
  have C_bottom_of := ok_bottom_of T
  have C_top_of := ok_top_of T
  obtain ⟨f, fd, hm, F⟩ := T.d_floor_of
  refine ⟨f, fd, ["number"], hm, F.kp, F.bindsN fun _ _ _ _ _ _ us hl => (match us, hl with | [_], _ => rfl), rfl, fn_mk F sc_floor_of fun cdv A outer s0 H E hr tk hp => ?_⟩
  exact sb_one (ss_ret (se_bin op_divV os_div (se_call C_top_of (hr.mono (by decide)) tk rfl rfl (sa_cons (se_var (pv 0)) (sa_nil))) (se_call C_bottom_of (hr.mono (by decide)) tk rfl rfl (sa_cons (se_var (pv 0)) (sa_nil)))))
def B_ceiling_of : StF := sRet (eUn uNeg (eBin oDiv (eUn uNeg (eCall G_top_of [eVar 0])) (eCall G_bottom_of [eVar 0])))
def G_ceiling_of : Gf := fnRun 1 1 B_ceiling_of
abbrev N_ceiling_of : List Str := ["number"]
theorem sc_ceiling_of : FnScope N_ceiling_of ["number"] (defScope (top 62)) := ⟨rfl, rfl, rfl, by decide +kernel, rfl, by decide +kernel, by decide +kernel⟩
theorem ok_ceiling_of (T : Tab P w K mg base) : FnS P w K mg base 2 "ceiling_of" 1 G_ceiling_of := by
  have C_bottom_of := ok_bottom_of T
  have C_top_of := ok_top_of T
  obtain ⟨f, fd, hm, F⟩ := T.d_ceiling_of
  refine ⟨f, fd, ["number"], hm, F.kp, F.bindsN fun _ _ _ _ _ _ us hl => (match us, hl with | [_], _ => rfl), rfl, fn_mk F sc_ceiling_of fun cdv A outer s0 H E hr tk hp => ?_⟩
  exact sb_one (ss_ret (se_un un_neg us_neg (se_bin op_divV os_div (se_un un_neg us_neg (se_call C_top_of (hr.mono (by decide)) tk rfl rfl (sa_cons (se_var (pv 0)) (sa_nil)))) (se_call C_bottom_of (hr.mono (by decide)) tk rfl rfl (sa_cons (se_var (pv 0)) (sa_nil))))))
def B_nearest : StF := sRet (eBin oDiv (eBin oAdd (eBin oMulV (eC (.int 2)) (eCall G_top_of [eVar 0])) (eCall G_bottom_of [eVar 0])) (eBin oMulV (eC (.int 2)) (eCall G_bottom_of [eVar 0])))
def G_nearest : Gf := fnRun 1 1 B_nearest
abbrev N_nearest : List Str := ["number"]
theorem sc_nearest : FnScope N_nearest ["number"] (defScope (top 63)) := ⟨rfl, rfl, rfl, by decide +kernel, rfl, by decide +kernel, by decide +kernel⟩
theorem ok_nearest (T : Tab P w K mg base) : FnS P w K mg base 2 "nearest" 1 G_nearest := by
  have C_bottom_of := ok_bottom_of T
  have C_top_of := ok_top_of T
  obtain ⟨f, fd, hm, F⟩ := T.d_nearest
  refine ⟨f, fd, ["number"], hm, F.kp, F.bindsN fun _ _ _ _ _ _ us hl => (match us, hl with | [_], _ => rfl), rfl, fn_mk F sc_nearest fun cdv A outer s0 H E hr tk hp => ?_⟩
  exact sb_one (ss_ret (se_bin op_divV os_div (se_bin op_addV os_add (se_bin op_mulV os_mulV (se_int) (se_call C_top_of (hr.mono (by decide)) tk rfl rfl (sa_cons (se_var (pv 0)) (sa_nil)))) (se_call C_bottom_of (hr.mono (by decide)) tk rfl rfl (sa_cons (se_var (pv 0)) (sa_nil)))) (se_bin op_mulV os_mulV (se_int) (se_call C_bottom_of (hr.mono (by decide)) tk rfl rfl (sa_cons (se_var (pv 0)) (sa_nil))))))
def B_common_bottom : StF := sSeq (sAsg 1 (eC (.int 1))) (sSeq (sFor (srSeq (eVar 0)) (tgN 2) (sAsg 1 (eB2 oLcm' (eVar 1) (eCall G_bottom_of [eVar 2])))) (sRetV 1))
def G_common_bottom : Gf := fnRun 1 3 B_common_bottom
abbrev N_common_bottom : List Str := ["numbers", "common", "number"]
theorem sc_common_bottom : FnScope N_common_bottom ["numbers"] (defScope (top 64)) := ⟨rfl, rfl, rfl, by decide +kernel, rfl, by decide +kernel, by decide +kernel⟩
theorem ok_common_bottom (T : Tab P w K mg base) : FnS P w K mg base 2 "common_bottom" 1 G_common_bottom := by
  have C_bottom_of := ok_bottom_of T
  obtain ⟨f, fd, hm, F⟩ := T.d_common_bottom
  refine ⟨f, fd, ["numbers"], hm, F.kp, F.bindsN fun _ _ _ _ _ _ us hl => (match us, hl with | [_], _ => rfl), rfl, fn_mk F sc_common_bottom fun cdv A outer s0 H E hr tk hp => ?_⟩
  exact sb_cons (ss_asg (ps_set (i := 1) sc_common_bottom.nd rfl (Or.inl rfl) (se_int))) (sb_cons (ss_for hp rfl (si_seq (se_var (pv 0))) (pg_name sc_common_bottom.nd rfl (Or.inl rfl)) tgs_n (sb_one (ss_asg (ps_set (i := 1) sc_common_bottom.nd rfl (Or.inl rfl) (ar2 (fun ta h => pe_callBfun cr_lcm rfl T.m_lcm h) cs_lcm' (se_var (pv 1)) (se_call C_bottom_of (hr.mono (by decide)) tk rfl rfl (sa_cons (se_var (pv 2)) (sa_nil)))))))) (sb_one (ss_retV (pv 1))))
def B_number_text : StF := sSeq (sIf (eCall G_is_whole [eVar 0]) (sRet (eB1 bStr (eVar 0))) (sNx)) (sRet (eFstr [.ex (eBin oIx (eVar 0) (eC (.int 0))), .txt "/", .ex (eBin oIx (eVar 0) (eC (.int 1)))]))
def G_number_text : Gf := fnRun 1 1 B_number_text
abbrev N_number_text : List Str := ["number"]
theorem sc_number_text : FnScope N_number_text ["number"] (defScope (top 67)) := ⟨rfl, rfl, rfl, by decide +kernel, rfl, by decide +kernel, by decide +kernel⟩
theorem ok_number_text (T : Tab P w K mg base) : FnS P w K mg base 2 "number_text" 1 G_number_text := by
  have C_is_whole := ok_is_whole T
  obtain ⟨f, fd, hm, F⟩ := T.d_number_text
  refine ⟨f, fd, ["number"], hm, F.kp, F.bindsN fun _ _ _ _ _ _ us hl => (match us, hl with | [_], _ => rfl), rfl, fn_mk F sc_number_text fun cdv A outer s0 H E hr tk hp => ?_⟩
  exact sb_cons (ss_if (st_val (se_call C_is_whole (hr.mono (by decide)) tk rfl rfl (sa_cons (se_var (pv 0)) (sa_nil)))) (sb_one (ss_ret (ar1 (fun ta h => pe_callTy call_str_int rfl T.b_str (by decide +kernel) h) cs_str (se_var (pv 0))))) (sb_nil)) (sb_one (ss_ret (se_fstr (.ex (se_ix ix_seq os_ix (se_var (pv 0)) (se_int) (fun _ _ => rfl)) (.txt (.ex (se_ix ix_seq os_ix (se_var (pv 0)) (se_int) (fun _ _ => rfl)) (.nil)))))))
def B_UlawUnumbers : StF := sSeq (sAsg 3 (eB1 bAbs (eCall G_UlawUcell [eVar 0, eVar 1]))) (sSeq (sAsg 4 (eLst [])) (sSeq (sIf (eBin oGe (eVar 3) (eBin oPow (eC (.int 10)) (eC (.int 18)))) (sSeq (sFor (srR1 (eVar 2)) (tgN 5) (sSeq (sApp 4 (eBin oMod (eB1 bInt (eVar 3)) (eC (.int 10007)))) (sAsg 3 (eBin oDiv (eVar 3) (eC (.int 10007)))))) (sRetV 4)) (sNx)) (sSeq (sFor (srR1 (eVar 2)) (tgN 5) (sSeq (sAsg 6 (eBin oMod (eB1 bInt (eBin oAdd (eBin oAdd (eBin oMulV (eVar 3) (eC (.int 48271))) (eBin oMulV (eC (.int 69621)) (eVar 5))) (eC (.int 11)))) (eC (.int 2147483647)))) (sApp 4 (eBin oMod (eB1 bInt (eBin oAdd (eBin oMulV (eBin oDiv (eVar 6) (eC (.int 16))) (eC (.int 7919))) (eVar 5))) (eC (.int 10007)))))) (sRetV 4))))
def G_UlawUnumbers : Gf := fnRun 3 7 B_UlawUnumbers
abbrev N_UlawUnumbers : List Str := ["script", "k", "many", "cell", "row", "j", "mixed"]
theorem sc_UlawUnumbers : FnScope N_UlawUnumbers ["script", "k", "many"] (defScope (top 72)) := ⟨rfl, rfl, rfl, by decide +kernel, rfl, by decide +kernel, by decide +kernel⟩
theorem ok_UlawUnumbers (T : Tab P w K mg base) : FnS P w K mg base 2 "_law_numbers" 3 G_UlawUnumbers := by
  have C_UlawUcell := ok_UlawUcell T
  obtain ⟨f, fd, hm, F⟩ := T.d_UlawUnumbers
  refine ⟨f, fd, ["script", "k", "many"], hm, F.kp, F.bindsN fun _ _ _ _ _ _ us hl => (match us, hl with | [_, _, _], _ => rfl), rfl, fn_mk F sc_UlawUnumbers fun cdv A outer s0 H E hr tk hp => ?_⟩
  exact sb_cons (ss_asg (ps_set (i := 3) sc_UlawUnumbers.nd rfl (Or.inl rfl) (ar1 (fun ta h => pe_callB call_abs rfl T.b_abs (by decide +kernel) h) cs_abs (se_call C_UlawUcell (hr.mono (by decide)) tk rfl rfl (sa_cons (se_var (pv 0)) (sa_cons (se_var (pv 1)) (sa_nil))))))) (sb_cons (ss_asg (ps_set (i := 4) sc_UlawUnumbers.nd rfl (Or.inl rfl) (se_lst (sa_nil)))) (sb_cons (ss_if (st_cmp op_ge os_ge (se_var (pv 3)) (se_bin op_pow os_pow (se_int) (se_int)) (nomark _)) (sb_cons (ss_for hp rfl (si_r1 rfl T.b_range (se_var (pv 2))) (pg_name sc_UlawUnumbers.nd rfl (Or.inl rfl)) tgs_n (sb_cons (ss_app (pv 4) (se_bin op_modN os_mod (ar1 (fun ta h => pe_callTy call_int1 rfl T.b_int (by decide +kernel) h) cs_int (se_var (pv 3))) (se_int))) (sb_one (ss_asg (ps_set (i := 3) sc_UlawUnumbers.nd rfl (Or.inl rfl) (se_bin op_divV os_div (se_var (pv 3)) (se_int))))))) (sb_one (ss_retV (pv 4)))) (sb_nil)) (sb_cons (ss_for hp rfl (si_r1 rfl T.b_range (se_var (pv 2))) (pg_name sc_UlawUnumbers.nd rfl (Or.inl rfl)) tgs_n (sb_cons (ss_asg (ps_set (i := 6) sc_UlawUnumbers.nd rfl (Or.inl rfl) (se_bin op_modN os_mod (ar1 (fun ta h => pe_callTy call_int1 rfl T.b_int (by decide +kernel) h) cs_int (se_bin op_addV os_add (se_bin op_addV os_add (se_bin op_mulV os_mulV (se_var (pv 3)) (se_int)) (se_bin op_mulV os_mulV (se_int) (se_var (pv 5)))) (se_int))) (se_int)))) (sb_one (ss_app (pv 4) (se_bin op_modN os_mod (ar1 (fun ta h => pe_callTy call_int1 rfl T.b_int (by decide +kernel) h) cs_int (se_bin op_addV os_add (se_bin op_mulV os_mulV (se_bin op_divV os_div (se_var (pv 6)) (se_int)) (se_int)) (se_var (pv 5)))) (se_int)))))) (sb_one (ss_retV (pv 4))))))
def B_UlawUmake : StF := sSeq (sAsg 2 (eCall G_UlawUgcd [eVar 0, eVar 1])) (sSeq (sFrz 2) (sSeq (sIf (eBin oLt (eVar 1) (eC (.int 0))) (sAsg 2 (eUn uNeg (eVar 2))) (sNx)) (sSeq (sIf (eBin oEq (eBin oDiv (eVar 1) (eVar 2)) (eC (.int 1))) (sRet (eBin oDiv (eVar 0) (eVar 2))) (sNx)) (sRet (eTup [eBin oDiv (eVar 0) (eVar 2), eBin oDiv (eVar 1) (eVar 2)])))))
def G_UlawUmake : Gf := fnRun 2 3 B_UlawUmake
abbrev N_UlawUmake : List Str := ["top", "bottom", "common"]
theorem sc_UlawUmake : FnScope N_UlawUmake ["top", "bottom"] (defScope (top 74)) := ⟨rfl, rfl, rfl, by decide +kernel, rfl, by decide +kernel, by decide +kernel⟩
theorem ok_UlawUmake (T : Tab P w K mg base) : FnS P w K mg base 2 "_law_make" 2 G_UlawUmake := by
  have C_UlawUgcd := ok_UlawUgcd T
  obtain ⟨f, fd, hm, F⟩ := T.d_UlawUmake
  refine ⟨f, fd, ["top", "bottom"], hm, F.kp, F.bindsN fun _ _ _ _ _ _ us hl => (match us, hl with | [_, _], _ => rfl), rfl, fn_mk F sc_UlawUmake fun cdv A outer s0 H E hr tk hp => ?_⟩
  exact sb_cons (ss_asg (ps_set (i := 2) sc_UlawUmake.nd rfl (Or.inl rfl) (se_call C_UlawUgcd (hr.mono (by decide)) tk rfl rfl (sa_cons (se_var (pv 0)) (sa_cons (se_var (pv 1)) (sa_nil)))))) (sb_frz (sb_cons (ss_if (st_cmp op_lt os_lt (se_var (pv 1)) (se_int) (nomark _)) (sb_one (ss_asg (ps_set (i := 2) sc_UlawUmake.nd rfl (Or.inl rfl) (se_un un_neg us_neg (se_var (pv 2)))))) (sb_nil)) (sb_cons (ss_if (st_cmp (op_eqD hr.units) os_eq (se_bin op_divV os_div (se_var (pv 1)) (se_var (pv 2))) (se_int) (nomark _)) (sb_one (ss_ret (se_bin op_divV os_div (se_var (pv 0)) (se_var (pv 2))))) (sb_nil)) (sb_one (ss_ret (se_tup (sa_cons (se_bin op_divV os_div (se_var (pv 0)) (se_var (pv 2))) (sa_cons (se_bin op_divV os_div (se_var (pv 1)) (se_var (pv 2))) (sa_nil)))))))))
def B_UlawUisUnumber : StF := sSeq (sIf (eCall G_UlawUisUint [eVar 0]) (sRet (eC (.bl true))) (sNx)) (sSeq (sIf (eOr (eNot (eB1 (bIs .tuple) (eVar 0))) (eOr (eBin oNe (eB1 bLen (eVar 0)) (eC (.int 2))) (eOr (eNot (eCall G_UlawUisUint [eBin oIx (eVar 0) (eC (.int 0))])) (eNot (eCall G_UlawUisUint [eBin oIx (eVar 0) (eC (.int 1))]))))) (sRet (eC (.bl false))) (sNx)) (sRet (eAnd (eBin oGe (eBin oIx (eVar 0) (eC (.int 1))) (eC (.int 2))) (eBin oEq (eCall G_UlawUgcd [eBin oIx (eVar 0) (eC (.int 0)), eBin oIx (eVar 0) (eC (.int 1))]) (eC (.int 1))))))
def G_UlawUisUnumber : Gf := fnRun 1 1 B_UlawUisUnumber
abbrev N_UlawUisUnumber : List Str := ["x"]
theorem sc_UlawUisUnumber : FnScope N_UlawUisUnumber ["x"] (defScope (top 78)) := ⟨rfl, rfl, rfl, by decide +kernel, rfl, by decide +kernel, by decide +kernel⟩
theorem ok_UlawUisUnumber (T : Tab P w K mg base) : FnS P w K mg base 2 "_law_is_number" 1 G_UlawUisUnumber := by
  have C_UlawUgcd := ok_UlawUgcd T
  have C_UlawUisUint := ok_UlawUisUint T
  obtain ⟨f, fd, hm, F⟩ := T.d_UlawUisUnumber
  refine ⟨f, fd, ["x"], hm, F.kp, F.bindsN fun _ _ _ _ _ _ us hl => (match us, hl with | [_], _ => rfl), rfl, fn_mk F sc_UlawUisUnumber fun cdv A outer s0 H E hr tk hp => ?_⟩
  exact sb_cons (ss_if (st_val (se_call C_UlawUisUint (hr.mono (by decide)) tk rfl rfl (sa_cons (se_var (pv 0)) (sa_nil)))) (sb_one (ss_ret (se_bl))) (sb_nil)) (sb_cons (ss_if (st_w (sw_or (st_not (st_val (se_is (t := .tuple) rfl T.b_isinstance (se_var (pv 0)) (pe_bltn rfl T.b_tuple (by decide +kernel) rfl)))) (sw_or (st_cmp (op_neD hr.units) os_ne (ar1 (fun ta h => pe_callB call_len rfl T.b_len boot_len h) cs_len (se_var (pv 0))) (se_int) (nomark _)) (sw_or (st_not (st_val (se_call C_UlawUisUint (hr.mono (by decide)) tk rfl rfl (sa_cons (se_ix ix_seq os_ix (se_var (pv 0)) (se_int) (fun _ _ => rfl)) (sa_nil))))) (sw_or1 (st_not (st_val (se_call C_UlawUisUint (hr.mono (by decide)) tk rfl rfl (sa_cons (se_ix ix_seq os_ix (se_var (pv 0)) (se_int) (fun _ _ => rfl)) (sa_nil)))))))))) (sb_one (ss_ret (se_bl))) (sb_nil)) (sb_one (ss_ret (se_and (se_cmp op_ge os_ge (se_ix ix_seq os_ix (se_var (pv 0)) (se_int) (fun _ _ => rfl)) (se_int) (nomark _)) (se_one (se_cmp (op_eqD hr.units) os_eq (se_call C_UlawUgcd (hr.mono (by decide)) tk rfl rfl (sa_cons (se_ix ix_seq os_ix (se_var (pv 0)) (se_int) (fun _ _ => rfl)) (sa_cons (se_ix ix_seq os_ix (se_var (pv 0)) (se_int) (fun _ _ => rfl)) (sa_nil)))) (se_int) (nomark _)))))))
def Q0_UlawUnoUratio (a : Nat) : StF := sRet (eAnd (eExc 1 a true) (eAnd (eExc 1 a true) (eNot (eExc 1 a false))))
noncomputable def B_UlawUnoUratio : StF := sSeq (sTryS 1 (sDrop (eCall G_ratio [eVar 0, eC (.int 0)])) (lkB [("ZeroBottom", true)]) (pick [("ZeroBottom", Q0_UlawUnoUratio)])) (sRet (eC (.bl false)))
noncomputable def G_UlawUnoUratio : Gf := fnRun 1 2 B_UlawUnoUratio
abbrev N_UlawUnoUratio : List Str := ["top", "e"]
theorem sc_UlawUnoUratio : FnScope N_UlawUnoUratio ["top"] (defScope (top 82)) := ⟨rfl, rfl, rfl, by decide +kernel, rfl, by decide +kernel, by decide +kernel⟩
theorem ok_UlawUnoUratio (T : Tab P w K mg base) : FnS P w K mg base 2 "_law_no_ratio" 1 G_UlawUnoUratio := by
  have C_ratio := ok_ratio T
  obtain ⟨f, fd, hm, F⟩ := T.d_UlawUnoUratio
  refine ⟨f, fd, ["top"], hm, F.kp, F.bindsN fun _ _ _ _ _ _ us hl => (match us, hl with | [_], _ => rfl), rfl, fn_mk F sc_UlawUnoUratio fun cdv A outer s0 H E hr tk hp => ?_⟩
  exact sb_cons (ss_trys (i := 1) rfl rfl sc_UlawUnoUratio.nd rfl rfl ⟨rfl, by decide, Or.inl T.k_ZeroBottom⟩ tk (fun W pn xe tk2 hp2 => sb_one (ss_drop (se_call C_ratio (hr.mono (by decide)) tk2 rfl rfl (sa_cons (se_var (pv 0)) (sa_cons (se_int) (sa_nil)))))) (fun cn hcn a oe pn hz hf => by
    have hm := lkB_mem hcn
    rcases List.mem_cons.mp hm with hm | hm
    · cases hm
      rw [pick_hd]
      exact sb_one (ss_ret (se_and (se_exc T.xc_ZeroBottom hz hf T.kit_ZeroBottom_BookError rfl T.b_isinstance rfl (Or.inl rfl) (pe_glob (v := .ref _) rfl T.k_BookError rfl) (fun _ h => h)) (se_and (se_exc T.xc_ZeroBottom hz hf T.kit_ZeroBottom_ValueError rfl T.b_isinstance rfl (Or.inl rfl) (pe_bltn (v := .ty "ValueError") (u := .type "ValueError") rfl T.b_ValueError (by decide +kernel) rfl) (fun _ h => h)) (se_one (se_not (se_exc T.xc_ZeroBottom hz hf T.kit_ZeroBottom_BadText rfl T.b_isinstance rfl (Or.inl rfl) (pe_glob (v := .ref _) rfl T.k_BadText rfl) (fun _ h => h)))))))
    cases hm) (fun cn b hcn => by
    have hm := lkB_mem hcn
    rcases List.mem_cons.mp hm with hm | hm
    · cases hm
      exact T.x_ZeroBottom_ZeroBottom
    cases hm)) (sb_one (ss_ret (se_bl)))
def B_least_of : StF := sSeq (sAsg 1 (eC .non)) (sSeq (sFor (srSeq (eVar 0)) (tgN 2) (sIf (eOr (eBin oIsN (eVar 1) (eC .non)) (eCall G_less [eVar 2, eVar 1])) (sSeq (sAsg 1 (eVar 2)) (sSeq (sFrz 1) (sNx))) (sNx))) (sRetV 1))
def G_least_of : Gf := fnRun 1 3 B_least_of
abbrev N_least_of : List Str := ["numbers", "best", "number"]
theorem sc_least_of : FnScope N_least_of ["numbers"] (defScope (top 65)) := ⟨rfl, rfl, rfl, by decide +kernel, rfl, by decide +kernel, by decide +kernel⟩
theorem ok_least_of (T : Tab P w K mg base) : FnS P w K mg base 3 "least_of" 1 G_least_of := by
  have C_less := ok_less T
  obtain ⟨f, fd, hm, F⟩ := T.d_least_of
  refine ⟨f, fd, ["numbers"], hm, F.kp, F.bindsN fun _ _ _ _ _ _ us hl => (match us, hl with | [_], _ => rfl), rfl, fn_mk F sc_least_of fun cdv A outer s0 H E hr tk hp => ?_⟩
  exact sb_cons (ss_asg (ps_set (i := 1) sc_least_of.nd rfl (Or.inl rfl) (se_non))) (sb_cons (ss_for hp rfl (si_seq (se_var (pv 0))) (pg_name sc_least_of.nd rfl (Or.inl rfl)) tgs_n (sb_one (ss_if (st_w (sw_or (st_cmp op_isN os_isN (se_var (pv 1)) (se_non) (nomark _)) (sw_or1 (st_val (se_call C_less (hr.mono (by decide)) tk rfl rfl (sa_cons (se_var (pv 2)) (sa_cons (se_var (pv 1)) (sa_nil)))))))) (sb_cons (ss_asg (ps_set (i := 1) sc_least_of.nd rfl (Or.inl rfl) (se_var (pv 2)))) (sb_frz (sb_nil))) (sb_nil)))) (sb_one (ss_retV (pv 1))))
def B_greatest_of : StF := sSeq (sAsg 1 (eC .non)) (sSeq (sFor (srSeq (eVar 0)) (tgN 2) (sIf (eOr (eBin oIsN (eVar 1) (eC .non)) (eCall G_less [eVar 1, eVar 2])) (sSeq (sAsg 1 (eVar 2)) (sSeq (sFrz 1) (sNx))) (sNx))) (sRetV 1))
def G_greatest_of : Gf := fnRun 1 3 B_greatest_of
abbrev N_greatest_of : List Str := ["numbers", "best", "number"]
theorem sc_greatest_of : FnScope N_greatest_of ["numbers"] (defScope (top 66)) := ⟨rfl, rfl, rfl, by decide +kernel, rfl, by decide +kernel, by decide +kernel⟩
theorem ok_greatest_of (T : Tab P w K mg base) : FnS P w K mg base 3 "greatest_of" 1 G_greatest_of := by
  have C_less := ok_less T
  obtain ⟨f, fd, hm, F⟩ := T.d_greatest_of
  refine ⟨f, fd, ["numbers"], hm, F.kp, F.bindsN fun _ _ _ _ _ _ us hl => (match us, hl with | [_], _ => rfl), rfl, fn_mk F sc_greatest_of fun cdv A outer s0 H E hr tk hp => ?_⟩
  exact sb_cons (ss_asg (ps_set (i := 1) sc_greatest_of.nd rfl (Or.inl rfl) (se_non))) (sb_cons (ss_for hp rfl (si_seq (se_var (pv 0))) (pg_name sc_greatest_of.nd rfl (Or.inl rfl)) tgs_n (sb_one (ss_if (st_w (sw_or (st_cmp op_isN os_isN (se_var (pv 1)) (se_non) (nomark _)) (sw_or1 (st_val (se_call C_less (hr.mono (by decide)) tk rfl rfl (sa_cons (se_var (pv 1)) (sa_cons (se_var (pv 2)) (sa_nil)))))))) (sb_cons (ss_asg (ps_set (i := 1) sc_greatest_of.nd rfl (Or.inl rfl) (se_var (pv 2)))) (sb_frz (sb_nil))) (sb_nil)))) (sb_one (ss_retV (pv 1))))
def B_read_number : StF := sSeq (sAsg 1 (eIte (eBin oEq (eSlc (eVar 0) none (some 1)) (eC (.str "-"))) (eSlc (eVar 0) (some 1) none) (eVar 0))) (sSeq (sFrz 1) (sSeq (sUnp (tg3 2 3 4) (eB1 (bPart 47) (eVar 1))) (sSeq (sAsg 5 (eCall G_read_numeral [eVar 2])) (sSeq (sFrz 5) (sSeq (sAsg 6 (eIte (eBin oEq (eVar 3) (eC (.str "/"))) (eCall G_read_numeral [eVar 4]) (eC (.int 1)))) (sSeq (sFrz 6) (sSeq (sIf (eBin oEq (eVar 6) (eC (.int 0))) (sRaise "BadText") (sNx)) (sSeq (sAsg 7 (eCall G_ratio [eIte (eBin oEq (eSlc (eVar 0) none (some 1)) (eC (.str "-"))) (eUn uNeg (eVar 5)) (eVar 5), eVar 6])) (sSeq (sFrz 7) (sSeq (sIf (eBin oNe (eCall G_number_text [eVar 7]) (eVar 0)) (sRaise "BadText") (sNx)) (sRetV 7)))))))))))
def G_read_number : Gf := fnRun 1 8 B_read_number
abbrev N_read_number : List Str := ["text", "body", "top_text", "slash", "bottom_text", "top", "bottom", "number"]
theorem sc_read_number : FnScope N_read_number ["text"] (defScope (top 69)) := ⟨rfl, rfl, rfl, by decide +kernel, rfl, by decide +kernel, by decide +kernel⟩
theorem ok_read_number (T : Tab P w K mg base) : FnS P w K mg base 3 "read_number" 1 G_read_number := by
  have C_number_text := ok_number_text T
  have C_ratio := ok_ratio T
  have C_read_numeral := ok_read_numeral T
  obtain ⟨f, fd, hm, F⟩ := T.d_read_number
  refine ⟨f, fd, ["text"], hm, F.kp, F.bindsN fun _ _ _ _ _ _ us hl => (match us, hl with | [_], _ => rfl), rfl, fn_mk F sc_read_number fun cdv A outer s0 H E hr tk hp => ?_⟩
  exact sb_cons (ss_asg (ps_set (i := 1) sc_read_number.nd rfl (Or.inl rfl) (se_ite (st_cmp (op_eqD hr.units) os_eq (se_slc (se_var (pv 0)) po_none (po_some pe_int) el_none el_int) (se_str) (nomark _)) (se_slc (se_var (pv 0)) (po_some pe_int) po_none el_int el_none) (se_var (pv 0))))) (sb_frz (sb_cons (ss_unp (ps_asg (se_part rfl (se_var (pv 1))) (pg_tup rfl (pgs_cons (pg_name sc_read_number.nd rfl (Or.inl rfl)) (pgs_cons (pg_name sc_read_number.nd rfl (Or.inl rfl)) (pgs_cons (pg_name sc_read_number.nd rfl (Or.inl rfl)) pgs_nil))))) tgs_3) (sb_cons (ss_asg (ps_set (i := 5) sc_read_number.nd rfl (Or.inl rfl) (se_call C_read_numeral (hr.mono (by decide)) tk rfl rfl (sa_cons (se_var (pv 2)) (sa_nil))))) (sb_frz (sb_cons (ss_asg (ps_set (i := 6) sc_read_number.nd rfl (Or.inl rfl) (se_ite (st_cmp (op_eqD hr.units) os_eq (se_var (pv 3)) (se_str) (nomark _)) (se_call C_read_numeral (hr.mono (by decide)) tk rfl rfl (sa_cons (se_var (pv 4)) (sa_nil))) (se_int)))) (sb_frz (sb_cons (ss_if (st_cmp (op_eqD hr.units) os_eq (se_var (pv 6)) (se_int) (nomark _)) (sb_one (ss_raise (L2N.ps_raise rfl tk (L2N.pmk_own PySem.F.excBase_ValueError T.e_BadText.1 T.k_BadText T.e_BadText.2.1 (raises_own T.e_BadText.2.2.1 T.e_BadText.2.2.2) (by exact rfl))))) (sb_nil)) (sb_cons (ss_asg (ps_set (i := 7) sc_read_number.nd rfl (Or.inl rfl) (se_call C_ratio (hr.mono (by decide)) tk rfl rfl (sa_cons (se_ite (st_cmp (op_eqD hr.units) os_eq (se_slc (se_var (pv 0)) po_none (po_some pe_int) el_none el_int) (se_str) (nomark _)) (se_un un_neg us_neg (se_var (pv 5))) (se_var (pv 5))) (sa_cons (se_var (pv 6)) (sa_nil)))))) (sb_frz (sb_cons (ss_if (st_cmp (op_neD hr.units) os_ne (se_call C_number_text (hr.mono (by decide)) tk rfl rfl (sa_cons (se_var (pv 7)) (sa_nil))) (se_var (pv 0)) (nomark _)) (sb_one (ss_raise (L2N.ps_raise rfl tk (L2N.pmk_own PySem.F.excBase_ValueError T.e_BadText.1 T.k_BadText T.e_BadText.2.1 (raises_own T.e_BadText.2.2.1 T.e_BadText.2.2.2) (by exact rfl))))) (sb_nil)) (sb_one (ss_retV (pv 7)))))))))))))
def B_UlawUstands : StF := sRet (eAnd (eCall G_UlawUisUnumber [eVar 0]) (eBin oEq (eBin oMulV (eCall G_UlawUtop [eVar 0]) (eVar 2)) (eBin oMulV (eVar 1) (eCall G_UlawUbottom [eVar 0]))))
def G_UlawUstands : Gf := fnRun 3 3 B_UlawUstands
abbrev N_UlawUstands : List Str := ["x", "top", "bottom"]
theorem sc_UlawUstands : FnScope N_UlawUstands ["x", "top", "bottom"] (defScope (top 79)) := ⟨rfl, rfl, rfl, by decide +kernel, rfl, by decide +kernel, by decide +kernel⟩
theorem ok_UlawUstands (T : Tab P w K mg base) : FnS P w K mg base 3 "_law_stands" 3 G_UlawUstands := by
  have C_UlawUbottom := ok_UlawUbottom T
  have C_UlawUisUnumber := ok_UlawUisUnumber T
  have C_UlawUtop := ok_UlawUtop T
  obtain ⟨f, fd, hm, F⟩ := T.d_UlawUstands
  refine ⟨f, fd, ["x", "top", "bottom"], hm, F.kp, F.bindsN fun _ _ _ _ _ _ us hl => (match us, hl with | [_, _, _], _ => rfl), rfl, fn_mk F sc_UlawUstands fun cdv A outer s0 H E hr tk hp => ?_⟩
  exact sb_one (ss_ret (se_and (se_call C_UlawUisUnumber (hr.mono (by decide)) tk rfl rfl (sa_cons (se_var (pv 0)) (sa_nil))) (se_one (se_cmp (op_eqD hr.units) os_eq (se_bin op_mulV os_mulV (se_call C_UlawUtop (hr.mono (by decide)) tk rfl rfl (sa_cons (se_var (pv 0)) (sa_nil))) (se_var (pv 2))) (se_bin op_mulV os_mulV (se_var (pv 1)) (se_call C_UlawUbottom (hr.mono (by decide)) tk rfl rfl (sa_cons (se_var (pv 0)) (sa_nil)))) (nomark _)))))
def B_UlawUdrawn : StF := sSeq (sAsg 3 (eBin oSub (eBin oIx (eVar 0) (eVar 1)) (eC (.int 5003)))) (sSeq (sIf (eVar 2) (sSeq (sAsg 3 (eBin oMulV (eVar 3) (eBin oAdd (eBin oPow (eC (.int 10)) (eC (.int 9))) (eC (.int 7))))) (sSeq (sFrz 3) (sNx))) (sNx)) (sRet (eCall G_UlawUmake [eVar 3, eBin oAdd (eC (.int 1)) (eBin oMod (eB1 bInt (eBin oIx (eVar 0) (eBin oAdd (eVar 1) (eC (.int 1))))) (eC (.int 60)))])))
def G_UlawUdrawn : Gf := fnRun 3 4 B_UlawUdrawn
abbrev N_UlawUdrawn : List Str := ["numbers", "k", "large", "top"]
theorem sc_UlawUdrawn : FnScope N_UlawUdrawn ["numbers", "k", "large"] (defScope (top 80)) := ⟨rfl, rfl, rfl, by decide +kernel, rfl, by decide +kernel, by decide +kernel⟩
theorem ok_UlawUdrawn (T : Tab P w K mg base) : FnS P w K mg base 3 "_law_drawn" 3 G_UlawUdrawn := by
  have C_UlawUmake := ok_UlawUmake T
  obtain ⟨f, fd, hm, F⟩ := T.d_UlawUdrawn
  refine ⟨f, fd, ["numbers", "k", "large"], hm, F.kp, F.bindsN fun _ _ _ _ _ _ us hl => (match us, hl with | [_, _, _], _ => rfl), rfl, fn_mk F sc_UlawUdrawn fun cdv A outer s0 H E hr tk hp => ?_⟩
  exact sb_cons (ss_asg (ps_set (i := 3) sc_UlawUdrawn.nd rfl (Or.inl rfl) (se_bin op_sub os_sub (se_ix ix_seq os_ix (se_var (pv 0)) (se_var (pv 1)) (fun _ _ => rfl)) (se_int)))) (sb_cons (ss_if (st_val (se_var (pv 2))) (sb_cons (ss_asg (ps_set (i := 3) sc_UlawUdrawn.nd rfl (Or.inl rfl) (se_bin op_mulV os_mulV (se_var (pv 3)) (se_bin op_addV os_add (se_bin op_pow os_pow (se_int) (se_int)) (se_int))))) (sb_frz (sb_nil))) (sb_nil)) (sb_one (ss_ret (se_call C_UlawUmake (hr.mono (by decide)) tk rfl rfl (sa_cons (se_var (pv 3)) (sa_cons (se_bin op_addV os_add (se_int) (se_bin op_modN os_mod (ar1 (fun ta h => pe_callTy call_int1 rfl T.b_int (by decide +kernel) h) cs_int (se_ix ix_seq os_ix (se_var (pv 0)) (se_bin op_addV os_add (se_var (pv 1)) (se_int)) (fun _ _ => rfl))) (se_int))) (sa_nil)))))))
def Q0_UlawUnoUquotient (a : Nat) : StF := sRet (eExc 1 a true)
noncomputable def B_UlawUnoUquotient : StF := sSeq (sTryS 1 (sDrop (eCall G_over [eVar 0, eC (.int 0)])) (lkB [("ZeroBottom", true)]) (pick [("ZeroBottom", Q0_UlawUnoUquotient)])) (sRet (eC (.bl false)))
noncomputable def G_UlawUnoUquotient : Gf := fnRun 1 2 B_UlawUnoUquotient
abbrev N_UlawUnoUquotient : List Str := ["x", "e"]
theorem sc_UlawUnoUquotient : FnScope N_UlawUnoUquotient ["x"] (defScope (top 83)) := ⟨rfl, rfl, rfl, by decide +kernel, rfl, by decide +kernel, by decide +kernel⟩
theorem ok_UlawUnoUquotient (T : Tab P w K mg base) : FnS P w K mg base 3 "_law_no_quotient" 1 G_UlawUnoUquotient := by
  have C_over := ok_over T
  obtain ⟨f, fd, hm, F⟩ := T.d_UlawUnoUquotient
  refine ⟨f, fd, ["x"], hm, F.kp, F.bindsN fun _ _ _ _ _ _ us hl => (match us, hl with | [_], _ => rfl), rfl, fn_mk F sc_UlawUnoUquotient fun cdv A outer s0 H E hr tk hp => ?_⟩
  exact sb_cons (ss_trys (i := 1) rfl rfl sc_UlawUnoUquotient.nd rfl rfl ⟨rfl, by decide, Or.inl T.k_BookError⟩ tk (fun W pn xe tk2 hp2 => sb_one (ss_drop (se_call C_over (hr.mono (by decide)) tk2 rfl rfl (sa_cons (se_var (pv 0)) (sa_cons (se_int) (sa_nil)))))) (fun cn hcn a oe pn hz hf => by
    have hm := lkB_mem hcn
    rcases List.mem_cons.mp hm with hm | hm
    · cases hm
      rw [pick_hd]
      exact sb_one (ss_ret (se_exc T.xc_ZeroBottom hz hf T.kit_ZeroBottom_ZeroBottom rfl T.b_isinstance rfl (Or.inl rfl) (pe_glob (v := .ref _) rfl T.k_ZeroBottom rfl) (fun _ h => h)))
    cases hm) (fun cn b hcn => by
    have hm := lkB_mem hcn
    rcases List.mem_cons.mp hm with hm | hm
    · cases hm
      exact T.x_ZeroBottom_BookError
    cases hm)) (sb_one (ss_ret (se_bl)))
def Q0_UlawUnoUtext (a : Nat) : StF := sRet (eAnd (eExc 1 a true) (eAnd (eExc 1 a true) (eNot (eExc 1 a false))))
noncomputable def B_UlawUnoUtext : StF := sSeq (sTryS 1 (sDrop (eCall G_read_number [eVar 0])) (lkB [("BadText", true), ("ZeroBottom", false)]) (pick [("BadText", Q0_UlawUnoUtext)])) (sRet (eC (.bl false)))
noncomputable def G_UlawUnoUtext : Gf := fnRun 1 2 B_UlawUnoUtext
abbrev N_UlawUnoUtext : List Str := ["text", "e"]
theorem sc_UlawUnoUtext : FnScope N_UlawUnoUtext ["text"] (defScope (top 81)) := ⟨rfl, rfl, rfl, by decide +kernel, rfl, by decide +kernel, by decide +kernel⟩
theorem ok_UlawUnoUtext (T : Tab P w K mg base) : FnS P w K mg base 4 "_law_no_text" 1 G_UlawUnoUtext := by
  have C_read_number := ok_read_number T
  obtain ⟨f, fd, hm, F⟩ := T.d_UlawUnoUtext
  refine ⟨f, fd, ["text"], hm, F.kp, F.bindsN fun _ _ _ _ _ _ us hl => (match us, hl with | [_], _ => rfl), rfl, fn_mk F sc_UlawUnoUtext fun cdv A outer s0 H E hr tk hp => ?_⟩
  exact sb_cons (ss_trys (i := 1) rfl rfl sc_UlawUnoUtext.nd rfl rfl ⟨rfl, by decide, Or.inl T.k_BadText⟩ tk (fun W pn xe tk2 hp2 => sb_one (ss_drop (se_call C_read_number (hr.mono (by decide)) tk2 rfl rfl (sa_cons (se_var (pv 0)) (sa_nil))))) (fun cn hcn a oe pn hz hf => by
    have hm := lkB_mem hcn
    rcases List.mem_cons.mp hm with hm | hm
    · cases hm
      rw [pick_hd]
      exact sb_one (ss_ret (se_and (se_exc T.xc_BadText hz hf T.kit_BadText_BookError rfl T.b_isinstance rfl (Or.inl rfl) (pe_glob (v := .ref _) rfl T.k_BookError rfl) (fun _ h => h)) (se_and (se_exc T.xc_BadText hz hf T.kit_BadText_ValueError rfl T.b_isinstance rfl (Or.inl rfl) (pe_bltn (v := .ty "ValueError") (u := .type "ValueError") rfl T.b_ValueError (by decide +kernel) rfl) (fun _ h => h)) (se_one (se_not (se_exc T.xc_BadText hz hf T.kit_BadText_ZeroBottom rfl T.b_isinstance rfl (Or.inl rfl) (pe_glob (v := .ref _) rfl T.k_ZeroBottom rfl) (fun _ h => h)))))))
    rcases List.mem_cons.mp hm with hm | hm
    · cases hm
    cases hm) (fun cn b hcn => by
    have hm := lkB_mem hcn
    rcases List.mem_cons.mp hm with hm | hm
    · cases hm
      exact T.x_BadText_BadText
    rcases List.mem_cons.mp hm with hm | hm
    · cases hm
      exact T.x_ZeroBottom_BadText
    cases hm)) (sb_one (ss_ret (se_bl)))
def Q0_UlawUalone (a : Nat) : StF := sSeq (sAsg 3 (eLst [eExc 2 a false, eExc 2 a false, eExc 2 a false, eExc 2 a false])) (sSeq (sFrz 3) (sSeq (sAsg 3 (eBin oAdd (eVar 3) (eLst [eExc 2 a false, eExc 2 a false, eExc 2 a false, eExc 2 a false]))) (sSeq (sFrz 3) (sSeq (sAsg 3 (eBin oAdd (eVar 3) (eLst [eExc 2 a false, eExc 2 a false, eExc 2 a false, eExc 2 a false]))) (sSeq (sFrz 3) (sSeq (sAsg 3 (eBin oAdd (eVar 3) (eLst [eExc 2 a false, eExc 2 a false, eExc 2 a false, eExc 2 a false]))) (sSeq (sFrz 3) (sSeq (sAsg 3 (eBin oAdd (eVar 3) (eLst [eExc 2 a false, eExc 2 a false, eExc 2 a true, eExc 2 a false]))) (sSeq (sFrz 3) (sSeq (sAsg 3 (eBin oAdd (eVar 3) (eLst [eExc 2 a false, eExc 2 a false, eExc 2 a false]))) (sSeq (sFrz 3) (sSeq (sAsg 3 (eBin oAdd (eVar 3) (eLst [eExc 2 a false, eExc 2 a false, eExc 2 a false, eExc 2 a false]))) (sSeq (sFrz 3) (sSeq (sAsg 3 (eBin oAdd (eVar 3) (eLst [eExc 2 a false, eExc 2 a false, eExc 2 a false, eExc 2 a false]))) (sSeq (sFrz 3) (sSeq (sAsg 3 (eBin oAdd (eVar 3) (eLst [eExc 2 a false, eExc 2 a false, eExc 2 a false, eExc 2 a false]))) (sSeq (sFrz 3) (sSeq (sAsg 3 (eBin oAdd (eVar 3) (eLst [eExc 2 a false, eExc 2 a false, eExc 2 a false, eExc 2 a false]))) (sSeq (sFrz 3) (sSeq (sAsg 3 (eBin oAdd (eVar 3) (eLst [eExc 2 a false, eExc 2 a false, eExc 2 a false, eExc 2 a false]))) (sSeq (sFrz 3) (sSeq (sAsg 3 (eBin oAdd (eVar 3) (eLst [eExc 2 a false, eExc 2 a false, eExc 2 a false]))) (sSeq (sFrz 3) (sRet (eComp (srR1 (eB1 bLen (eVar 3))) (tgN 4) [4] (eBin oIx (eVar 3) (eVar 4)) (eVar 4))))))))))))))))))))))))))
def Q1_UlawUalone (a : Nat) : StF := sSeq (sAsg 3 (eLst [eExc 2 a false, eExc 2 a false, eExc 2 a false, eExc 2 a false])) (sSeq (sFrz 3) (sSeq (sAsg 3 (eBin oAdd (eVar 3) (eLst [eExc 2 a false, eExc 2 a false, eExc 2 a false, eExc 2 a false]))) (sSeq (sFrz 3) (sSeq (sAsg 3 (eBin oAdd (eVar 3) (eLst [eExc 2 a false, eExc 2 a false, eExc 2 a false, eExc 2 a false]))) (sSeq (sFrz 3) (sSeq (sAsg 3 (eBin oAdd (eVar 3) (eLst [eExc 2 a true, eExc 2 a false, eExc 2 a false, eExc 2 a false]))) (sSeq (sFrz 3) (sSeq (sAsg 3 (eBin oAdd (eVar 3) (eLst [eExc 2 a false, eExc 2 a false, eExc 2 a false, eExc 2 a false]))) (sSeq (sFrz 3) (sSeq (sAsg 3 (eBin oAdd (eVar 3) (eLst [eExc 2 a false, eExc 2 a false, eExc 2 a false]))) (sSeq (sFrz 3) (sSeq (sAsg 3 (eBin oAdd (eVar 3) (eLst [eExc 2 a false, eExc 2 a false, eExc 2 a false, eExc 2 a false]))) (sSeq (sFrz 3) (sSeq (sAsg 3 (eBin oAdd (eVar 3) (eLst [eExc 2 a false, eExc 2 a false, eExc 2 a false, eExc 2 a false]))) (sSeq (sFrz 3) (sSeq (sAsg 3 (eBin oAdd (eVar 3) (eLst [eExc 2 a false, eExc 2 a false, eExc 2 a false, eExc 2 a false]))) (sSeq (sFrz 3) (sSeq (sAsg 3 (eBin oAdd (eVar 3) (eLst [eExc 2 a false, eExc 2 a false, eExc 2 a false, eExc 2 a false]))) (sSeq (sFrz 3) (sSeq (sAsg 3 (eBin oAdd (eVar 3) (eLst [eExc 2 a false, eExc 2 a false, eExc 2 a false, eExc 2 a false]))) (sSeq (sFrz 3) (sSeq (sAsg 3 (eBin oAdd (eVar 3) (eLst [eExc 2 a false, eExc 2 a false, eExc 2 a false]))) (sSeq (sFrz 3) (sRet (eComp (srR1 (eB1 bLen (eVar 3))) (tgN 4) [4] (eBin oIx (eVar 3) (eVar 4)) (eVar 4))))))))))))))))))))))))))
noncomputable def B_UlawUalone : StF := sSeq (sTryS 2 (sSeq (sIf (eBin oEq (eVar 0) (eC (.int 0))) (sDrop (eCall G_ratio [eCall G_UlawUtop [eVar 1], eC (.int 0)])) (sNx)) (sSeq (sIf (eBin oEq (eVar 0) (eC (.int 1))) (sDrop (eCall G_over [eVar 1, eC (.int 0)])) (sNx)) (sDrop (eCall G_read_number [eBin oAdd (eCall G_number_text [eVar 1]) (eC (.str "/7/9"))])))) (lkB [("BadText", true), ("ZeroBottom", true)]) (pick [("BadText", Q0_UlawUalone), ("ZeroBottom", Q1_UlawUalone)])) (sRet (eLst []))
noncomputable def G_UlawUalone : Gf := fnRun 2 5 B_UlawUalone
abbrev N_UlawUalone : List Str := ["door", "x", "e", "kinds", "k"]
theorem sc_UlawUalone : FnScope N_UlawUalone ["door", "x"] (defScope (top 84)) := ⟨rfl, rfl, rfl, by decide +kernel, rfl, by decide +kernel, by decide +kernel⟩
theorem ok_UlawUalone (T : Tab P w K mg base) : FnS P w K mg base 4 "_law_alone" 2 G_UlawUalone := by
  have C_UlawUtop := ok_UlawUtop T
  have C_number_text := ok_number_text T
  have C_over := ok_over T
  have C_ratio := ok_ratio T
  have C_read_number := ok_read_number T
  obtain ⟨f, fd, hm, F⟩ := T.d_UlawUalone
  refine ⟨f, fd, ["door", "x"], hm, F.kp, F.bindsN fun _ _ _ _ _ _ us hl => (match us, hl with | [_, _], _ => rfl), rfl, fn_mk F sc_UlawUalone fun cdv A outer s0 H E hr tk hp => ?_⟩
  exact sb_cons (ss_trys (i := 2) rfl rfl sc_UlawUalone.nd rfl rfl ⟨rfl, by decide, Or.inl T.k_BookError⟩ tk (fun W pn xe tk2 hp2 => sb_cons (ss_if (st_cmp (op_eqD hr.units) os_eq (se_var (pv 0)) (se_int) (nomark _)) (sb_one (ss_drop (se_call C_ratio (hr.mono (by decide)) tk2 rfl rfl (sa_cons (se_call C_UlawUtop (hr.mono (by decide)) tk2 rfl rfl (sa_cons (se_var (pv 1)) (sa_nil))) (sa_cons (se_int) (sa_nil)))))) (sb_nil)) (sb_cons (ss_if (st_cmp (op_eqD hr.units) os_eq (se_var (pv 0)) (se_int) (nomark _)) (sb_one (ss_drop (se_call C_over (hr.mono (by decide)) tk2 rfl rfl (sa_cons (se_var (pv 1)) (sa_cons (se_int) (sa_nil)))))) (sb_nil)) (sb_one (ss_drop (se_call C_read_number (hr.mono (by decide)) tk2 rfl rfl (sa_cons (se_bin op_addV os_add (se_call C_number_text (hr.mono (by decide)) tk2 rfl rfl (sa_cons (se_var (pv 1)) (sa_nil))) (se_str)) (sa_nil))))))) (fun cn hcn a oe pn hz hf => by
    have hm := lkB_mem hcn
    rcases List.mem_cons.mp hm with hm | hm
    · cases hm
      rw [pick_hd]
      exact sb_cons (ss_asg (ps_set (i := 3) sc_UlawUalone.nd rfl (Or.inr rfl) (se_lst (sa_cons (se_exc T.xc_BadText hz hf T.kit_BadText_NoCell rfl T.b_isinstance rfl (Or.inl rfl) (pe_glob (v := .ref _) rfl T.k_NoCell rfl) (fun _ h => h)) (sa_cons (se_exc T.xc_BadText hz hf T.kit_BadText_EmptyRange rfl T.b_isinstance rfl (Or.inl rfl) (pe_glob (v := .ref _) rfl T.k_EmptyRange rfl) (fun _ h => h)) (sa_cons (se_exc T.xc_BadText hz hf T.kit_BadText_NoEnd rfl T.b_isinstance rfl (Or.inl rfl) (pe_glob (v := .ref _) rfl T.k_NoEnd rfl) (fun _ h => h)) (sa_cons (se_exc T.xc_BadText hz hf T.kit_BadText_NoStart rfl T.b_isinstance rfl (Or.inl rfl) (pe_glob (v := .ref _) rfl T.k_NoStart rfl) (fun _ h => h)) (sa_nil)))))))) (sb_frz (sb_cons (ss_asg (ps_set (i := 3) sc_UlawUalone.nd rfl (Or.inr rfl) (se_bin op_addV os_add (se_var (pv 3)) (se_lst (sa_cons (se_exc T.xc_BadText hz hf T.kit_BadText_NotEntry rfl T.b_isinstance rfl (Or.inl rfl) (pe_glob (v := .ref _) rfl T.k_NotEntry rfl) (fun _ h => h)) (sa_cons (se_exc T.xc_BadText hz hf T.kit_BadText_MixedModel rfl T.b_isinstance rfl (Or.inl rfl) (pe_glob (v := .ref _) rfl T.k_MixedModel rfl) (fun _ h => h)) (sa_cons (se_exc T.xc_BadText hz hf T.kit_BadText_TooWide rfl T.b_isinstance rfl (Or.inl rfl) (pe_glob (v := .ref _) rfl T.k_TooWide rfl) (fun _ h => h)) (sa_cons (se_exc T.xc_BadText hz hf T.kit_BadText_TooMany rfl T.b_isinstance rfl (Or.inl rfl) (pe_glob (v := .ref _) rfl T.k_TooMany rfl) (fun _ h => h)) (sa_nil))))))))) (sb_frz (sb_cons (ss_asg (ps_set (i := 3) sc_UlawUalone.nd rfl (Or.inr rfl) (se_bin op_addV os_add (se_var (pv 3)) (se_lst (sa_cons (se_exc T.xc_BadText hz hf T.kit_BadText_CoarseBook rfl T.b_isinstance rfl (Or.inl rfl) (pe_glob (v := .ref _) rfl T.k_CoarseBook rfl) (fun _ h => h)) (sa_cons (se_exc T.xc_BadText hz hf T.kit_BadText_NoAnswer rfl T.b_isinstance rfl (Or.inl rfl) (pe_glob (v := .ref _) rfl T.k_NoAnswer rfl) (fun _ h => h)) (sa_cons (se_exc T.xc_BadText hz hf T.kit_BadText_NoLeast rfl T.b_isinstance rfl (Or.inl rfl) (pe_glob (v := .ref _) rfl T.k_NoLeast rfl) (fun _ h => h)) (sa_cons (se_exc T.xc_BadText hz hf T.kit_BadText_BadLine rfl T.b_isinstance rfl (Or.inl rfl) (pe_glob (v := .ref _) rfl T.k_BadLine rfl) (fun _ h => h)) (sa_nil))))))))) (sb_frz (sb_cons (ss_asg (ps_set (i := 3) sc_UlawUalone.nd rfl (Or.inr rfl) (se_bin op_addV os_add (se_var (pv 3)) (se_lst (sa_cons (se_exc T.xc_BadText hz hf T.kit_BadText_ZeroBottom rfl T.b_isinstance rfl (Or.inl rfl) (pe_glob (v := .ref _) rfl T.k_ZeroBottom rfl) (fun _ h => h)) (sa_cons (se_exc T.xc_BadText hz hf T.kit_BadText_BadName rfl T.b_isinstance rfl (Or.inl rfl) (pe_glob (v := .ref _) rfl T.k_BadName rfl) (fun _ h => h)) (sa_cons (se_exc T.xc_BadText hz hf T.kit_BadText_BadSize rfl T.b_isinstance rfl (Or.inl rfl) (pe_glob (v := .ref _) rfl T.k_BadSize rfl) (fun _ h => h)) (sa_cons (se_exc T.xc_BadText hz hf T.kit_BadText_NotTable rfl T.b_isinstance rfl (Or.inl rfl) (pe_glob (v := .ref _) rfl T.k_NotTable rfl) (fun _ h => h)) (sa_nil))))))))) (sb_frz (sb_cons (ss_asg (ps_set (i := 3) sc_UlawUalone.nd rfl (Or.inr rfl) (se_bin op_addV os_add (se_var (pv 3)) (se_lst (sa_cons (se_exc T.xc_BadText hz hf T.kit_BadText_NotWhole rfl T.b_isinstance rfl (Or.inl rfl) (pe_glob (v := .ref _) rfl T.k_NotWhole rfl) (fun _ h => h)) (sa_cons (se_exc T.xc_BadText hz hf T.kit_BadText_NotAnswer rfl T.b_isinstance rfl (Or.inl rfl) (pe_glob (v := .ref _) rfl T.k_NotAnswer rfl) (fun _ h => h)) (sa_cons (se_exc T.xc_BadText hz hf T.kit_BadText_BadText rfl T.b_isinstance rfl (Or.inl rfl) (pe_glob (v := .ref _) rfl T.k_BadText rfl) (fun _ h => h)) (sa_cons (se_exc T.xc_BadText hz hf T.kit_BadText_BadStep rfl T.b_isinstance rfl (Or.inl rfl) (pe_glob (v := .ref _) rfl T.k_BadStep rfl) (fun _ h => h)) (sa_nil))))))))) (sb_frz (sb_cons (ss_asg (ps_set (i := 3) sc_UlawUalone.nd rfl (Or.inr rfl) (se_bin op_addV os_add (se_var (pv 3)) (se_lst (sa_cons (se_exc T.xc_BadText hz hf T.kit_BadText_NotBasis rfl T.b_isinstance rfl (Or.inl rfl) (pe_glob (v := .ref _) rfl T.k_NotBasis rfl) (fun _ h => h)) (sa_cons (se_exc T.xc_BadText hz hf T.kit_BadText_BadColour rfl T.b_isinstance rfl (Or.inl rfl) (pe_glob (v := .ref _) rfl T.k_BadColour rfl) (fun _ h => h)) (sa_cons (se_exc T.xc_BadText hz hf T.kit_BadText_BadCrossing rfl T.b_isinstance rfl (Or.inl rfl) (pe_glob (v := .ref _) rfl T.k_BadCrossing rfl) (fun _ h => h)) (sa_nil)))))))) (sb_frz (sb_cons (ss_asg (ps_set (i := 3) sc_UlawUalone.nd rfl (Or.inr rfl) (se_bin op_addV os_add (se_var (pv 3)) (se_lst (sa_cons (se_exc T.xc_BadText hz hf T.kit_BadText_NotPlain rfl T.b_isinstance rfl (Or.inl rfl) (pe_glob (v := .ref _) rfl T.k_NotPlain rfl) (fun _ h => h)) (sa_cons (se_exc T.xc_BadText hz hf T.kit_BadText_BadSquare rfl T.b_isinstance rfl (Or.inl rfl) (pe_glob (v := .ref _) rfl T.k_BadSquare rfl) (fun _ h => h)) (sa_cons (se_exc T.xc_BadText hz hf T.kit_BadText_BadOrder rfl T.b_isinstance rfl (Or.inl rfl) (pe_glob (v := .ref _) rfl T.k_BadOrder rfl) (fun _ h => h)) (sa_cons (se_exc T.xc_BadText hz hf T.kit_BadText_BadWeb rfl T.b_isinstance rfl (Or.inl rfl) (pe_glob (v := .ref _) rfl T.k_BadWeb rfl) (fun _ h => h)) (sa_nil))))))))) (sb_frz (sb_cons (ss_asg (ps_set (i := 3) sc_UlawUalone.nd rfl (Or.inr rfl) (se_bin op_addV os_add (se_var (pv 3)) (se_lst (sa_cons (se_exc T.xc_BadText hz hf T.kit_BadText_BadStretch rfl T.b_isinstance rfl (Or.inl rfl) (pe_glob (v := .ref _) rfl T.k_BadStretch rfl) (fun _ h => h)) (sa_cons (se_exc T.xc_BadText hz hf T.kit_BadText_Crossing rfl T.b_isinstance rfl (Or.inl rfl) (pe_glob (v := .ref _) rfl T.k_Crossing rfl) (fun _ h => h)) (sa_cons (se_exc T.xc_BadText hz hf T.kit_BadText_BadSide rfl T.b_isinstance rfl (Or.inl rfl) (pe_glob (v := .ref _) rfl T.k_BadSide rfl) (fun _ h => h)) (sa_cons (se_exc T.xc_BadText hz hf T.kit_BadText_BadClash rfl T.b_isinstance rfl (Or.inl rfl) (pe_glob (v := .ref _) rfl T.k_BadClash rfl) (fun _ h => h)) (sa_nil))))))))) (sb_frz (sb_cons (ss_asg (ps_set (i := 3) sc_UlawUalone.nd rfl (Or.inr rfl) (se_bin op_addV os_add (se_var (pv 3)) (se_lst (sa_cons (se_exc T.xc_BadText hz hf T.kit_BadText_BadWeight rfl T.b_isinstance rfl (Or.inl rfl) (pe_glob (v := .ref _) rfl T.k_BadWeight rfl) (fun _ h => h)) (sa_cons (se_exc T.xc_BadText hz hf T.kit_BadText_BadStand rfl T.b_isinstance rfl (Or.inl rfl) (pe_glob (v := .ref _) rfl T.k_BadStand rfl) (fun _ h => h)) (sa_cons (se_exc T.xc_BadText hz hf T.kit_BadText_NotPriced rfl T.b_isinstance rfl (Or.inl rfl) (pe_glob (v := .ref _) rfl T.k_NotPriced rfl) (fun _ h => h)) (sa_cons (se_exc T.xc_BadText hz hf T.kit_BadText_BadRule rfl T.b_isinstance rfl (Or.inl rfl) (pe_glob (v := .ref _) rfl T.k_BadRule rfl) (fun _ h => h)) (sa_nil))))))))) (sb_frz (sb_cons (ss_asg (ps_set (i := 3) sc_UlawUalone.nd rfl (Or.inr rfl) (se_bin op_addV os_add (se_var (pv 3)) (se_lst (sa_cons (se_exc T.xc_BadText hz hf T.kit_BadText_NotBest rfl T.b_isinstance rfl (Or.inl rfl) (pe_glob (v := .ref _) rfl T.k_NotBest rfl) (fun _ h => h)) (sa_cons (se_exc T.xc_BadText hz hf T.kit_BadText_NoCut rfl T.b_isinstance rfl (Or.inl rfl) (pe_glob (v := .ref _) rfl T.k_NoCut rfl) (fun _ h => h)) (sa_cons (se_exc T.xc_BadText hz hf T.kit_BadText_BadCut rfl T.b_isinstance rfl (Or.inl rfl) (pe_glob (v := .ref _) rfl T.k_BadCut rfl) (fun _ h => h)) (sa_cons (se_exc T.xc_BadText hz hf T.kit_BadText_BadAhead rfl T.b_isinstance rfl (Or.inl rfl) (pe_glob (v := .ref _) rfl T.k_BadAhead rfl) (fun _ h => h)) (sa_nil))))))))) (sb_frz (sb_cons (ss_asg (ps_set (i := 3) sc_UlawUalone.nd rfl (Or.inr rfl) (se_bin op_addV os_add (se_var (pv 3)) (se_lst (sa_cons (se_exc T.xc_BadText hz hf T.kit_BadText_NotRounding rfl T.b_isinstance rfl (Or.inl rfl) (pe_glob (v := .ref _) rfl T.k_NotRounding rfl) (fun _ h => h)) (sa_cons (se_exc T.xc_BadText hz hf T.kit_BadText_BadLot rfl T.b_isinstance rfl (Or.inl rfl) (pe_glob (v := .ref _) rfl T.k_BadLot rfl) (fun _ h => h)) (sa_cons (se_exc T.xc_BadText hz hf T.kit_BadText_BadChance rfl T.b_isinstance rfl (Or.inl rfl) (pe_glob (v := .ref _) rfl T.k_BadChance rfl) (fun _ h => h)) (sa_cons (se_exc T.xc_BadText hz hf T.kit_BadText_BadDays rfl T.b_isinstance rfl (Or.inl rfl) (pe_glob (v := .ref _) rfl T.k_BadDays rfl) (fun _ h => h)) (sa_nil))))))))) (sb_frz (sb_cons (ss_asg (ps_set (i := 3) sc_UlawUalone.nd rfl (Or.inr rfl) (se_bin op_addV os_add (se_var (pv 3)) (se_lst (sa_cons (se_exc T.xc_BadText hz hf T.kit_BadText_NotEven rfl T.b_isinstance rfl (Or.inl rfl) (pe_glob (v := .ref _) rfl T.k_NotEven rfl) (fun _ h => h)) (sa_cons (se_exc T.xc_BadText hz hf T.kit_BadText_NoDeed rfl T.b_isinstance rfl (Or.inl rfl) (pe_glob (v := .ref _) rfl T.k_NoDeed rfl) (fun _ h => h)) (sa_cons (se_exc T.xc_BadText hz hf T.kit_BadText_BadDeed rfl T.b_isinstance rfl (Or.inl rfl) (pe_glob (v := .ref _) rfl T.k_BadDeed rfl) (fun _ h => h)) (sa_nil)))))))) (sb_frz (sb_one (ss_ret (se_compHV (hot_suite hz hf) sc_UlawUalone.nd (sih_r1 rfl T.b_range (ar1 (fun ta h => pe_callB call_len rfl T.b_len boot_len h) cs_len (se_var (pv 3)))) (blkOk_by (N := N_UlawUalone) (sc := defScope (top 84)) (own := [("k", 4)]) (by decide +kernel)) rfl (fun _ _ _ _ _ => (pg_name sc_UlawUalone.nd rfl (Or.inl rfl))) tgs_n (by decide) (fun _ _ _ _ _ => ts_one (st_val (se_ix ix_seq os_ix (se_var (pv 3)) (se_var (pv 4)) (fun _ _ => rfl)))) (fun _ _ _ _ _ => se_var (pv 4))))))))))))))))))))))))))))
    rcases List.mem_cons.mp hm with hm | hm
    · cases hm
      rw [pick_tl (by decide)]
      rw [pick_hd]
      exact sb_cons (ss_asg (ps_set (i := 3) sc_UlawUalone.nd rfl (Or.inr rfl) (se_lst (sa_cons (se_exc T.xc_ZeroBottom hz hf T.kit_ZeroBottom_NoCell rfl T.b_isinstance rfl (Or.inl rfl) (pe_glob (v := .ref _) rfl T.k_NoCell rfl) (fun _ h => h)) (sa_cons (se_exc T.xc_ZeroBottom hz hf T.kit_ZeroBottom_EmptyRange rfl T.b_isinstance rfl (Or.inl rfl) (pe_glob (v := .ref _) rfl T.k_EmptyRange rfl) (fun _ h => h)) (sa_cons (se_exc T.xc_ZeroBottom hz hf T.kit_ZeroBottom_NoEnd rfl T.b_isinstance rfl (Or.inl rfl) (pe_glob (v := .ref _) rfl T.k_NoEnd rfl) (fun _ h => h)) (sa_cons (se_exc T.xc_ZeroBottom hz hf T.kit_ZeroBottom_NoStart rfl T.b_isinstance rfl (Or.inl rfl) (pe_glob (v := .ref _) rfl T.k_NoStart rfl) (fun _ h => h)) (sa_nil)))))))) (sb_frz (sb_cons (ss_asg (ps_set (i := 3) sc_UlawUalone.nd rfl (Or.inr rfl) (se_bin op_addV os_add (se_var (pv 3)) (se_lst (sa_cons (se_exc T.xc_ZeroBottom hz hf T.kit_ZeroBottom_NotEntry rfl T.b_isinstance rfl (Or.inl rfl) (pe_glob (v := .ref _) rfl T.k_NotEntry rfl) (fun _ h => h)) (sa_cons (se_exc T.xc_ZeroBottom hz hf T.kit_ZeroBottom_MixedModel rfl T.b_isinstance rfl (Or.inl rfl) (pe_glob (v := .ref _) rfl T.k_MixedModel rfl) (fun _ h => h)) (sa_cons (se_exc T.xc_ZeroBottom hz hf T.kit_ZeroBottom_TooWide rfl T.b_isinstance rfl (Or.inl rfl) (pe_glob (v := .ref _) rfl T.k_TooWide rfl) (fun _ h => h)) (sa_cons (se_exc T.xc_ZeroBottom hz hf T.kit_ZeroBottom_TooMany rfl T.b_isinstance rfl (Or.inl rfl) (pe_glob (v := .ref _) rfl T.k_TooMany rfl) (fun _ h => h)) (sa_nil))))))))) (sb_frz (sb_cons (ss_asg (ps_set (i := 3) sc_UlawUalone.nd rfl (Or.inr rfl) (se_bin op_addV os_add (se_var (pv 3)) (se_lst (sa_cons (se_exc T.xc_ZeroBottom hz hf T.kit_ZeroBottom_CoarseBook rfl T.b_isinstance rfl (Or.inl rfl) (pe_glob (v := .ref _) rfl T.k_CoarseBook rfl) (fun _ h => h)) (sa_cons (se_exc T.xc_ZeroBottom hz hf T.kit_ZeroBottom_NoAnswer rfl T.b_isinstance rfl (Or.inl rfl) (pe_glob (v := .ref _) rfl T.k_NoAnswer rfl) (fun _ h => h)) (sa_cons (se_exc T.xc_ZeroBottom hz hf T.kit_ZeroBottom_NoLeast rfl T.b_isinstance rfl (Or.inl rfl) (pe_glob (v := .ref _) rfl T.k_NoLeast rfl) (fun _ h => h)) (sa_cons (se_exc T.xc_ZeroBottom hz hf T.kit_ZeroBottom_BadLine rfl T.b_isinstance rfl (Or.inl rfl) (pe_glob (v := .ref _) rfl T.k_BadLine rfl) (fun _ h => h)) (sa_nil))))))))) (sb_frz (sb_cons (ss_asg (ps_set (i := 3) sc_UlawUalone.nd rfl (Or.inr rfl) (se_bin op_addV os_add (se_var (pv 3)) (se_lst (sa_cons (se_exc T.xc_ZeroBottom hz hf T.kit_ZeroBottom_ZeroBottom rfl T.b_isinstance rfl (Or.inl rfl) (pe_glob (v := .ref _) rfl T.k_ZeroBottom rfl) (fun _ h => h)) (sa_cons (se_exc T.xc_ZeroBottom hz hf T.kit_ZeroBottom_BadName rfl T.b_isinstance rfl (Or.inl rfl) (pe_glob (v := .ref _) rfl T.k_BadName rfl) (fun _ h => h)) (sa_cons (se_exc T.xc_ZeroBottom hz hf T.kit_ZeroBottom_BadSize rfl T.b_isinstance rfl (Or.inl rfl) (pe_glob (v := .ref _) rfl T.k_BadSize rfl) (fun _ h => h)) (sa_cons (se_exc T.xc_ZeroBottom hz hf T.kit_ZeroBottom_NotTable rfl T.b_isinstance rfl (Or.inl rfl) (pe_glob (v := .ref _) rfl T.k_NotTable rfl) (fun _ h => h)) (sa_nil))))))))) (sb_frz (sb_cons (ss_asg (ps_set (i := 3) sc_UlawUalone.nd rfl (Or.inr rfl) (se_bin op_addV os_add (se_var (pv 3)) (se_lst (sa_cons (se_exc T.xc_ZeroBottom hz hf T.kit_ZeroBottom_NotWhole rfl T.b_isinstance rfl (Or.inl rfl) (pe_glob (v := .ref _) rfl T.k_NotWhole rfl) (fun _ h => h)) (sa_cons (se_exc T.xc_ZeroBottom hz hf T.kit_ZeroBottom_NotAnswer rfl T.b_isinstance rfl (Or.inl rfl) (pe_glob (v := .ref _) rfl T.k_NotAnswer rfl) (fun _ h => h)) (sa_cons (se_exc T.xc_ZeroBottom hz hf T.kit_ZeroBottom_BadText rfl T.b_isinstance rfl (Or.inl rfl) (pe_glob (v := .ref _) rfl T.k_BadText rfl) (fun _ h => h)) (sa_cons (se_exc T.xc_ZeroBottom hz hf T.kit_ZeroBottom_BadStep rfl T.b_isinstance rfl (Or.inl rfl) (pe_glob (v := .ref _) rfl T.k_BadStep rfl) (fun _ h => h)) (sa_nil))))))))) (sb_frz (sb_cons (ss_asg (ps_set (i := 3) sc_UlawUalone.nd rfl (Or.inr rfl) (se_bin op_addV os_add (se_var (pv 3)) (se_lst (sa_cons (se_exc T.xc_ZeroBottom hz hf T.kit_ZeroBottom_NotBasis rfl T.b_isinstance rfl (Or.inl rfl) (pe_glob (v := .ref _) rfl T.k_NotBasis rfl) (fun _ h => h)) (sa_cons (se_exc T.xc_ZeroBottom hz hf T.kit_ZeroBottom_BadColour rfl T.b_isinstance rfl (Or.inl rfl) (pe_glob (v := .ref _) rfl T.k_BadColour rfl) (fun _ h => h)) (sa_cons (se_exc T.xc_ZeroBottom hz hf T.kit_ZeroBottom_BadCrossing rfl T.b_isinstance rfl (Or.inl rfl) (pe_glob (v := .ref _) rfl T.k_BadCrossing rfl) (fun _ h => h)) (sa_nil)))))))) (sb_frz (sb_cons (ss_asg (ps_set (i := 3) sc_UlawUalone.nd rfl (Or.inr rfl) (se_bin op_addV os_add (se_var (pv 3)) (se_lst (sa_cons (se_exc T.xc_ZeroBottom hz hf T.kit_ZeroBottom_NotPlain rfl T.b_isinstance rfl (Or.inl rfl) (pe_glob (v := .ref _) rfl T.k_NotPlain rfl) (fun _ h => h)) (sa_cons (se_exc T.xc_ZeroBottom hz hf T.kit_ZeroBottom_BadSquare rfl T.b_isinstance rfl (Or.inl rfl) (pe_glob (v := .ref _) rfl T.k_BadSquare rfl) (fun _ h => h)) (sa_cons (se_exc T.xc_ZeroBottom hz hf T.kit_ZeroBottom_BadOrder rfl T.b_isinstance rfl (Or.inl rfl) (pe_glob (v := .ref _) rfl T.k_BadOrder rfl) (fun _ h => h)) (sa_cons (se_exc T.xc_ZeroBottom hz hf T.kit_ZeroBottom_BadWeb rfl T.b_isinstance rfl (Or.inl rfl) (pe_glob (v := .ref _) rfl T.k_BadWeb rfl) (fun _ h => h)) (sa_nil))))))))) (sb_frz (sb_cons (ss_asg (ps_set (i := 3) sc_UlawUalone.nd rfl (Or.inr rfl) (se_bin op_addV os_add (se_var (pv 3)) (se_lst (sa_cons (se_exc T.xc_ZeroBottom hz hf T.kit_ZeroBottom_BadStretch rfl T.b_isinstance rfl (Or.inl rfl) (pe_glob (v := .ref _) rfl T.k_BadStretch rfl) (fun _ h => h)) (sa_cons (se_exc T.xc_ZeroBottom hz hf T.kit_ZeroBottom_Crossing rfl T.b_isinstance rfl (Or.inl rfl) (pe_glob (v := .ref _) rfl T.k_Crossing rfl) (fun _ h => h)) (sa_cons (se_exc T.xc_ZeroBottom hz hf T.kit_ZeroBottom_BadSide rfl T.b_isinstance rfl (Or.inl rfl) (pe_glob (v := .ref _) rfl T.k_BadSide rfl) (fun _ h => h)) (sa_cons (se_exc T.xc_ZeroBottom hz hf T.kit_ZeroBottom_BadClash rfl T.b_isinstance rfl (Or.inl rfl) (pe_glob (v := .ref _) rfl T.k_BadClash rfl) (fun _ h => h)) (sa_nil))))))))) (sb_frz (sb_cons (ss_asg (ps_set (i := 3) sc_UlawUalone.nd rfl (Or.inr rfl) (se_bin op_addV os_add (se_var (pv 3)) (se_lst (sa_cons (se_exc T.xc_ZeroBottom hz hf T.kit_ZeroBottom_BadWeight rfl T.b_isinstance rfl (Or.inl rfl) (pe_glob (v := .ref _) rfl T.k_BadWeight rfl) (fun _ h => h)) (sa_cons (se_exc T.xc_ZeroBottom hz hf T.kit_ZeroBottom_BadStand rfl T.b_isinstance rfl (Or.inl rfl) (pe_glob (v := .ref _) rfl T.k_BadStand rfl) (fun _ h => h)) (sa_cons (se_exc T.xc_ZeroBottom hz hf T.kit_ZeroBottom_NotPriced rfl T.b_isinstance rfl (Or.inl rfl) (pe_glob (v := .ref _) rfl T.k_NotPriced rfl) (fun _ h => h)) (sa_cons (se_exc T.xc_ZeroBottom hz hf T.kit_ZeroBottom_BadRule rfl T.b_isinstance rfl (Or.inl rfl) (pe_glob (v := .ref _) rfl T.k_BadRule rfl) (fun _ h => h)) (sa_nil))))))))) (sb_frz (sb_cons (ss_asg (ps_set (i := 3) sc_UlawUalone.nd rfl (Or.inr rfl) (se_bin op_addV os_add (se_var (pv 3)) (se_lst (sa_cons (se_exc T.xc_ZeroBottom hz hf T.kit_ZeroBottom_NotBest rfl T.b_isinstance rfl (Or.inl rfl) (pe_glob (v := .ref _) rfl T.k_NotBest rfl) (fun _ h => h)) (sa_cons (se_exc T.xc_ZeroBottom hz hf T.kit_ZeroBottom_NoCut rfl T.b_isinstance rfl (Or.inl rfl) (pe_glob (v := .ref _) rfl T.k_NoCut rfl) (fun _ h => h)) (sa_cons (se_exc T.xc_ZeroBottom hz hf T.kit_ZeroBottom_BadCut rfl T.b_isinstance rfl (Or.inl rfl) (pe_glob (v := .ref _) rfl T.k_BadCut rfl) (fun _ h => h)) (sa_cons (se_exc T.xc_ZeroBottom hz hf T.kit_ZeroBottom_BadAhead rfl T.b_isinstance rfl (Or.inl rfl) (pe_glob (v := .ref _) rfl T.k_BadAhead rfl) (fun _ h => h)) (sa_nil))))))))) (sb_frz (sb_cons (ss_asg (ps_set (i := 3) sc_UlawUalone.nd rfl (Or.inr rfl) (se_bin op_addV os_add (se_var (pv 3)) (se_lst (sa_cons (se_exc T.xc_ZeroBottom hz hf T.kit_ZeroBottom_NotRounding rfl T.b_isinstance rfl (Or.inl rfl) (pe_glob (v := .ref _) rfl T.k_NotRounding rfl) (fun _ h => h)) (sa_cons (se_exc T.xc_ZeroBottom hz hf T.kit_ZeroBottom_BadLot rfl T.b_isinstance rfl (Or.inl rfl) (pe_glob (v := .ref _) rfl T.k_BadLot rfl) (fun _ h => h)) (sa_cons (se_exc T.xc_ZeroBottom hz hf T.kit_ZeroBottom_BadChance rfl T.b_isinstance rfl (Or.inl rfl) (pe_glob (v := .ref _) rfl T.k_BadChance rfl) (fun _ h => h)) (sa_cons (se_exc T.xc_ZeroBottom hz hf T.kit_ZeroBottom_BadDays rfl T.b_isinstance rfl (Or.inl rfl) (pe_glob (v := .ref _) rfl T.k_BadDays rfl) (fun _ h => h)) (sa_nil))))))))) (sb_frz (sb_cons (ss_asg (ps_set (i := 3) sc_UlawUalone.nd rfl (Or.inr rfl) (se_bin op_addV os_add (se_var (pv 3)) (se_lst (sa_cons (se_exc T.xc_ZeroBottom hz hf T.kit_ZeroBottom_NotEven rfl T.b_isinstance rfl (Or.inl rfl) (pe_glob (v := .ref _) rfl T.k_NotEven rfl) (fun _ h => h)) (sa_cons (se_exc T.xc_ZeroBottom hz hf T.kit_ZeroBottom_NoDeed rfl T.b_isinstance rfl (Or.inl rfl) (pe_glob (v := .ref _) rfl T.k_NoDeed rfl) (fun _ h => h)) (sa_cons (se_exc T.xc_ZeroBottom hz hf T.kit_ZeroBottom_BadDeed rfl T.b_isinstance rfl (Or.inl rfl) (pe_glob (v := .ref _) rfl T.k_BadDeed rfl) (fun _ h => h)) (sa_nil)))))))) (sb_frz (sb_one (ss_ret (se_compHV (hot_suite hz hf) sc_UlawUalone.nd (sih_r1 rfl T.b_range (ar1 (fun ta h => pe_callB call_len rfl T.b_len boot_len h) cs_len (se_var (pv 3)))) (blkOk_by (N := N_UlawUalone) (sc := defScope (top 84)) (own := [("k", 4)]) (by decide +kernel)) rfl (fun _ _ _ _ _ => (pg_name sc_UlawUalone.nd rfl (Or.inl rfl))) tgs_n (by decide) (fun _ _ _ _ _ => ts_one (st_val (se_ix ix_seq os_ix (se_var (pv 3)) (se_var (pv 4)) (fun _ _ => rfl)))) (fun _ _ _ _ _ => se_var (pv 4))))))))))))))))))))))))))))
    cases hm) (fun cn b hcn => by
    have hm := lkB_mem hcn
    rcases List.mem_cons.mp hm with hm | hm
    · cases hm
      exact T.x_BadText_BookError
    rcases List.mem_cons.mp hm with hm | hm
    · cases hm
      exact T.x_ZeroBottom_BookError
    cases hm)) (sb_one (ss_ret (se_lst (sa_nil))))
def B_UlawUtexts : StF := sSeq (sAsg 1 (eB1 bStr (eCall G_UlawUtop [eVar 0]))) (sSeq (sIf (eBin oNe (eCall G_UlawUbottom [eVar 0]) (eC (.int 1))) (sSeq (sAsg 1 (eBin oAdd (eBin oAdd (eVar 1) (eC (.str "/"))) (eB1 bStr (eCall G_UlawUbottom [eVar 0])))) (sSeq (sFrz 1) (sNx))) (sNx)) (sSeq (sAsg 2 (eCall G_number_text [eVar 0])) (sSeq (sFrz 2) (sSeq (sIf (eOr (eNot (eB1 (bIs .str) (eVar 2))) (eBin oNe (eVar 2) (eVar 1))) (sRet (eC (.bl false))) (sNx)) (sSeq (sAsg 3 (eCall G_read_number [eVar 1])) (sSeq (sFrz 3) (sRet (eAnd (eCall G_UlawUisUnumber [eVar 3]) (eBin oEq (eVar 3) (eVar 0))))))))))
def G_UlawUtexts : Gf := fnRun 1 4 B_UlawUtexts
abbrev N_UlawUtexts : List Str := ["x", "due", "told", "back"]
theorem sc_UlawUtexts : FnScope N_UlawUtexts ["x"] (defScope (top 85)) := ⟨rfl, rfl, rfl, by decide +kernel, rfl, by decide +kernel, by decide +kernel⟩
theorem ok_UlawUtexts (T : Tab P w K mg base) : FnS P w K mg base 4 "_law_texts" 1 G_UlawUtexts := by
  have C_UlawUbottom := ok_UlawUbottom T
  have C_UlawUisUnumber := ok_UlawUisUnumber T
  have C_UlawUtop := ok_UlawUtop T
  have C_number_text := ok_number_text T
  have C_read_number := ok_read_number T
  obtain ⟨f, fd, hm, F⟩ := T.d_UlawUtexts
  refine ⟨f, fd, ["x"], hm, F.kp, F.bindsN fun _ _ _ _ _ _ us hl => (match us, hl with | [_], _ => rfl), rfl, fn_mk F sc_UlawUtexts fun cdv A outer s0 H E hr tk hp => ?_⟩
  exact sb_cons (ss_asg (ps_set (i := 1) sc_UlawUtexts.nd rfl (Or.inl rfl) (ar1 (fun ta h => pe_callTy call_str_int rfl T.b_str (by decide +kernel) h) cs_str (se_call C_UlawUtop (hr.mono (by decide)) tk rfl rfl (sa_cons (se_var (pv 0)) (sa_nil)))))) (sb_cons (ss_if (st_cmp (op_neD hr.units) os_ne (se_call C_UlawUbottom (hr.mono (by decide)) tk rfl rfl (sa_cons (se_var (pv 0)) (sa_nil))) (se_int) (nomark _)) (sb_cons (ss_asg (ps_set (i := 1) sc_UlawUtexts.nd rfl (Or.inl rfl) (se_bin op_addV os_add (se_bin op_addV os_add (se_var (pv 1)) (se_str)) (ar1 (fun ta h => pe_callTy call_str_int rfl T.b_str (by decide +kernel) h) cs_str (se_call C_UlawUbottom (hr.mono (by decide)) tk rfl rfl (sa_cons (se_var (pv 0)) (sa_nil))))))) (sb_frz (sb_nil))) (sb_nil)) (sb_cons (ss_asg (ps_set (i := 2) sc_UlawUtexts.nd rfl (Or.inl rfl) (se_call C_number_text (hr.mono (by decide)) tk rfl rfl (sa_cons (se_var (pv 0)) (sa_nil))))) (sb_frz (sb_cons (ss_if (st_w (sw_or (st_not (st_val (se_is (t := .str) rfl T.b_isinstance (se_var (pv 2)) (pe_bltn rfl T.b_str (by decide +kernel) rfl)))) (sw_or1 (st_cmp (op_neD hr.units) os_ne (se_var (pv 2)) (se_var (pv 1)) (nomark _))))) (sb_one (ss_ret (se_bl))) (sb_nil)) (sb_cons (ss_asg (ps_set (i := 3) sc_UlawUtexts.nd rfl (Or.inl rfl) (se_call C_read_number (hr.mono (by decide)) tk rfl rfl (sa_cons (se_var (pv 1)) (sa_nil))))) (sb_frz (sb_one (ss_ret (se_and (se_call C_UlawUisUnumber (hr.mono (by decide)) tk rfl rfl (sa_cons (se_var (pv 3)) (sa_nil))) (se_one (se_cmp (op_eqD hr.units) os_eq (se_var (pv 3)) (se_var (pv 0)) (nomark _))))))))))))
def B_UlawUvalues : StF := sSeq (sAsg 2 (eCall G_UlawUtop [eVar 0])) (sSeq (sFrz 2) (sSeq (sAsg 3 (eCall G_UlawUbottom [eVar 0])) (sSeq (sFrz 3) (sSeq (sAsg 4 (eCall G_UlawUtop [eVar 1])) (sSeq (sFrz 4) (sSeq (sAsg 5 (eCall G_UlawUbottom [eVar 1])) (sSeq (sFrz 5) (sSeq (sIf (eOr (eNot (eCall G_UlawUstands [eCall G_plus [eVar 0, eVar 1], eBin oAdd (eBin oMulV (eVar 2) (eVar 5)) (eBin oMulV (eVar 4) (eVar 3)), eBin oMulV (eVar 3) (eVar 5)])) (eNot (eCall G_UlawUstands [eCall G_minus [eVar 0, eVar 1], eBin oSub (eBin oMulV (eVar 2) (eVar 5)) (eBin oMulV (eVar 4) (eVar 3)), eBin oMulV (eVar 3) (eVar 5)]))) (sRet (eC (.bl false))) (sNx)) (sSeq (sIf (eNot (eCall G_UlawUstands [eCall G_times [eVar 0, eVar 1], eBin oMulV (eVar 2) (eVar 4), eBin oMulV (eVar 3) (eVar 5)])) (sRet (eC (.bl false))) (sNx)) (sSeq (sIf (eAnd (eBin oNe (eVar 4) (eC (.int 0))) (eNot (eCall G_UlawUstands [eCall G_over [eVar 0, eVar 1], eBin oMulV (eVar 2) (eVar 5), eBin oMulV (eVar 3) (eVar 4)]))) (sRet (eC (.bl false))) (sNx)) (sSeq (sIf (eOr (eBin oNe (eBin oIsB (eCall G_less [eVar 0, eVar 1]) (eC (.bl true))) (eBin oLt (eBin oMulV (eVar 2) (eVar 5)) (eBin oMulV (eVar 4) (eVar 3)))) (eBin oNe (eBin oIsB (eCall G_less [eVar 0, eVar 1]) (eC (.bl false))) (eBin oGe (eBin oMulV (eVar 2) (eVar 5)) (eBin oMulV (eVar 4) (eVar 3))))) (sRet (eC (.bl false))) (sNx)) (sSeq (sIf (eOr (eNot (eCall G_UlawUisUint [eCall G_top_of [eVar 0]])) (eOr (eNot (eCall G_UlawUisUint [eCall G_bottom_of [eVar 0]])) (eOr (eBin oNe (eCall G_top_of [eVar 0]) (eVar 2)) (eBin oNe (eCall G_bottom_of [eVar 0]) (eVar 3))))) (sRet (eC (.bl false))) (sNx)) (sSeq (sIf (eOr (eBin oNe (eBin oIsB (eCall G_is_whole [eVar 0]) (eC (.bl true))) (eBin oEq (eVar 3) (eC (.int 1)))) (eBin oNe (eBin oIsB (eCall G_is_whole [eVar 0]) (eC (.bl false))) (eBin oNe (eVar 3) (eC (.int 1))))) (sRet (eC (.bl false))) (sNx)) (sSeq (sAsg 6 (eCall G_floor_of [eVar 0])) (sSeq (sFrz 6) (sSeq (sAsg 7 (eCall G_ceiling_of [eVar 0])) (sSeq (sFrz 7) (sSeq (sAsg 8 (eCall G_nearest [eVar 0])) (sSeq (sFrz 8) (sSeq (sIf (eOr (eNot (eCall G_UlawUisUint [eVar 6])) (eOr (eNot (eCall G_UlawUisUint [eVar 7])) (eNot (eCall G_UlawUisUint [eVar 8])))) (sRet (eC (.bl false))) (sNx)) (sSeq (sIf (eOr (eBin oGt (eBin oMulV (eVar 6) (eVar 3)) (eVar 2)) (eOr (eBin oLe (eBin oMulV (eBin oAdd (eVar 6) (eC (.int 1))) (eVar 3)) (eVar 2)) (eOr (eBin oLt (eBin oMulV (eVar 7) (eVar 3)) (eVar 2)) (eBin oGe (eBin oMulV (eBin oSub (eVar 7) (eC (.int 1))) (eVar 3)) (eVar 2))))) (sRet (eC (.bl false))) (sNx)) (sRet (eAnd (eBin oLe (eBin oMulV (eBin oSub (eBin oMulV (eC (.int 2)) (eVar 8)) (eC (.int 1))) (eVar 3)) (eBin oMulV (eC (.int 2)) (eVar 2))) (eBin oLt (eBin oMulV (eC (.int 2)) (eVar 2)) (eBin oMulV (eBin oAdd (eBin oMulV (eC (.int 2)) (eVar 8)) (eC (.int 1))) (eVar 3))))))))))))))))))))))))))
def G_UlawUvalues : Gf := fnRun 2 9 B_UlawUvalues
abbrev N_UlawUvalues : List Str := ["x", "y", "a", "b", "c", "e", "low", "high", "near"]
theorem sc_UlawUvalues : FnScope N_UlawUvalues ["x", "y"] (defScope (top 86)) := ⟨rfl, rfl, rfl, by decide +kernel, rfl, by decide +kernel, by decide +kernel⟩
theorem ok_UlawUvalues (T : Tab P w K mg base) : FnS P w K mg base 4 "_law_values" 2 G_UlawUvalues := by
  have C_UlawUbottom := ok_UlawUbottom T
  have C_UlawUisUint := ok_UlawUisUint T
  have C_UlawUstands := ok_UlawUstands T
  have C_UlawUtop := ok_UlawUtop T
  have C_bottom_of := ok_bottom_of T
  have C_ceiling_of := ok_ceiling_of T
  have C_floor_of := ok_floor_of T
  have C_is_whole := ok_is_whole T
  have C_less := ok_less T
  have C_minus := ok_minus T
  have C_nearest := ok_nearest T
  have C_over := ok_over T
  have C_plus := ok_plus T
  have C_times := ok_times T
  have C_top_of := ok_top_of T
  obtain ⟨f, fd, hm, F⟩ := T.d_UlawUvalues
  refine ⟨f, fd, ["x", "y"], hm, F.kp, F.bindsN fun _ _ _ _ _ _ us hl => (match us, hl with | [_, _], _ => rfl), rfl, fn_mk F sc_UlawUvalues fun cdv A outer s0 H E hr tk hp => ?_⟩
  exact sb_cons (ss_asg (ps_set (i := 2) sc_UlawUvalues.nd rfl (Or.inl rfl) (se_call C_UlawUtop (hr.mono (by decide)) tk rfl rfl (sa_cons (se_var (pv 0)) (sa_nil))))) (sb_frz (sb_cons (ss_asg (ps_set (i := 3) sc_UlawUvalues.nd rfl (Or.inl rfl) (se_call C_UlawUbottom (hr.mono (by decide)) tk rfl rfl (sa_cons (se_var (pv 0)) (sa_nil))))) (sb_frz (sb_cons (ss_asg (ps_set (i := 4) sc_UlawUvalues.nd rfl (Or.inl rfl) (se_call C_UlawUtop (hr.mono (by decide)) tk rfl rfl (sa_cons (se_var (pv 1)) (sa_nil))))) (sb_frz (sb_cons (ss_asg (ps_set (i := 5) sc_UlawUvalues.nd rfl (Or.inl rfl) (se_call C_UlawUbottom (hr.mono (by decide)) tk rfl rfl (sa_cons (se_var (pv 1)) (sa_nil))))) (sb_frz (sb_cons (ss_if (st_w (sw_or (st_not (st_val (se_call C_UlawUstands (hr.mono (by decide)) tk rfl rfl (sa_cons (se_call C_plus (hr.mono (by decide)) tk rfl rfl (sa_cons (se_var (pv 0)) (sa_cons (se_var (pv 1)) (sa_nil)))) (sa_cons (se_bin op_addV os_add (se_bin op_mulV os_mulV (se_var (pv 2)) (se_var (pv 5))) (se_bin op_mulV os_mulV (se_var (pv 4)) (se_var (pv 3)))) (sa_cons (se_bin op_mulV os_mulV (se_var (pv 3)) (se_var (pv 5))) (sa_nil))))))) (sw_or1 (st_not (st_val (se_call C_UlawUstands (hr.mono (by decide)) tk rfl rfl (sa_cons (se_call C_minus (hr.mono (by decide)) tk rfl rfl (sa_cons (se_var (pv 0)) (sa_cons (se_var (pv 1)) (sa_nil)))) (sa_cons (se_bin op_sub os_sub (se_bin op_mulV os_mulV (se_var (pv 2)) (se_var (pv 5))) (se_bin op_mulV os_mulV (se_var (pv 4)) (se_var (pv 3)))) (sa_cons (se_bin op_mulV os_mulV (se_var (pv 3)) (se_var (pv 5))) (sa_nil)))))))))) (sb_one (ss_ret (se_bl))) (sb_nil)) (sb_cons (ss_if (st_not (st_val (se_call C_UlawUstands (hr.mono (by decide)) tk rfl rfl (sa_cons (se_call C_times (hr.mono (by decide)) tk rfl rfl (sa_cons (se_var (pv 0)) (sa_cons (se_var (pv 1)) (sa_nil)))) (sa_cons (se_bin op_mulV os_mulV (se_var (pv 2)) (se_var (pv 4))) (sa_cons (se_bin op_mulV os_mulV (se_var (pv 3)) (se_var (pv 5))) (sa_nil))))))) (sb_one (ss_ret (se_bl))) (sb_nil)) (sb_cons (ss_if (st_w (sw_and (st_cmp (op_neD hr.units) os_ne (se_var (pv 4)) (se_int) (nomark _)) (sw_and1 (st_not (st_val (se_call C_UlawUstands (hr.mono (by decide)) tk rfl rfl (sa_cons (se_call C_over (hr.mono (by decide)) tk rfl rfl (sa_cons (se_var (pv 0)) (sa_cons (se_var (pv 1)) (sa_nil)))) (sa_cons (se_bin op_mulV os_mulV (se_var (pv 2)) (se_var (pv 5))) (sa_cons (se_bin op_mulV os_mulV (se_var (pv 3)) (se_var (pv 4))) (sa_nil)))))))))) (sb_one (ss_ret (se_bl))) (sb_nil)) (sb_cons (ss_if (st_w (sw_or (st_cmp (op_neD hr.units) os_ne (se_cmp op_isBl os_isB (se_call C_less (hr.mono (by decide)) tk rfl rfl (sa_cons (se_var (pv 0)) (sa_cons (se_var (pv 1)) (sa_nil)))) (se_bl) (nomark _)) (se_cmp op_lt os_lt (se_bin op_mulV os_mulV (se_var (pv 2)) (se_var (pv 5))) (se_bin op_mulV os_mulV (se_var (pv 4)) (se_var (pv 3))) (nomark _)) (nomark _)) (sw_or1 (st_cmp (op_neD hr.units) os_ne (se_cmp op_isBl os_isB (se_call C_less (hr.mono (by decide)) tk rfl rfl (sa_cons (se_var (pv 0)) (sa_cons (se_var (pv 1)) (sa_nil)))) (se_bl) (nomark _)) (se_cmp op_ge os_ge (se_bin op_mulV os_mulV (se_var (pv 2)) (se_var (pv 5))) (se_bin op_mulV os_mulV (se_var (pv 4)) (se_var (pv 3))) (nomark _)) (nomark _))))) (sb_one (ss_ret (se_bl))) (sb_nil)) (sb_cons (ss_if (st_w (sw_or (st_not (st_val (se_call C_UlawUisUint (hr.mono (by decide)) tk rfl rfl (sa_cons (se_call C_top_of (hr.mono (by decide)) tk rfl rfl (sa_cons (se_var (pv 0)) (sa_nil))) (sa_nil))))) (sw_or (st_not (st_val (se_call C_UlawUisUint (hr.mono (by decide)) tk rfl rfl (sa_cons (se_call C_bottom_of (hr.mono (by decide)) tk rfl rfl (sa_cons (se_var (pv 0)) (sa_nil))) (sa_nil))))) (sw_or (st_cmp (op_neD hr.units) os_ne (se_call C_top_of (hr.mono (by decide)) tk rfl rfl (sa_cons (se_var (pv 0)) (sa_nil))) (se_var (pv 2)) (nomark _)) (sw_or1 (st_cmp (op_neD hr.units) os_ne (se_call C_bottom_of (hr.mono (by decide)) tk rfl rfl (sa_cons (se_var (pv 0)) (sa_nil))) (se_var (pv 3)) (nomark _))))))) (sb_one (ss_ret (se_bl))) (sb_nil)) (sb_cons (ss_if (st_w (sw_or (st_cmp (op_neD hr.units) os_ne (se_cmp op_isBl os_isB (se_call C_is_whole (hr.mono (by decide)) tk rfl rfl (sa_cons (se_var (pv 0)) (sa_nil))) (se_bl) (nomark _)) (se_cmp (op_eqD hr.units) os_eq (se_var (pv 3)) (se_int) (nomark _)) (nomark _)) (sw_or1 (st_cmp (op_neD hr.units) os_ne (se_cmp op_isBl os_isB (se_call C_is_whole (hr.mono (by decide)) tk rfl rfl (sa_cons (se_var (pv 0)) (sa_nil))) (se_bl) (nomark _)) (se_cmp (op_neD hr.units) os_ne (se_var (pv 3)) (se_int) (nomark _)) (nomark _))))) (sb_one (ss_ret (se_bl))) (sb_nil)) (sb_cons (ss_asg (ps_set (i := 6) sc_UlawUvalues.nd rfl (Or.inl rfl) (se_call C_floor_of (hr.mono (by decide)) tk rfl rfl (sa_cons (se_var (pv 0)) (sa_nil))))) (sb_frz (sb_cons (ss_asg (ps_set (i := 7) sc_UlawUvalues.nd rfl (Or.inl rfl) (se_call C_ceiling_of (hr.mono (by decide)) tk rfl rfl (sa_cons (se_var (pv 0)) (sa_nil))))) (sb_frz (sb_cons (ss_asg (ps_set (i := 8) sc_UlawUvalues.nd rfl (Or.inl rfl) (se_call C_nearest (hr.mono (by decide)) tk rfl rfl (sa_cons (se_var (pv 0)) (sa_nil))))) (sb_frz (sb_cons (ss_if (st_w (sw_or (st_not (st_val (se_call C_UlawUisUint (hr.mono (by decide)) tk rfl rfl (sa_cons (se_var (pv 6)) (sa_nil))))) (sw_or (st_not (st_val (se_call C_UlawUisUint (hr.mono (by decide)) tk rfl rfl (sa_cons (se_var (pv 7)) (sa_nil))))) (sw_or1 (st_not (st_val (se_call C_UlawUisUint (hr.mono (by decide)) tk rfl rfl (sa_cons (se_var (pv 8)) (sa_nil))))))))) (sb_one (ss_ret (se_bl))) (sb_nil)) (sb_cons (ss_if (st_w (sw_or (st_cmp op_gt os_gt (se_bin op_mulV os_mulV (se_var (pv 6)) (se_var (pv 3))) (se_var (pv 2)) (nomark _)) (sw_or (st_cmp op_le os_le (se_bin op_mulV os_mulV (se_bin op_addV os_add (se_var (pv 6)) (se_int)) (se_var (pv 3))) (se_var (pv 2)) (nomark _)) (sw_or (st_cmp op_lt os_lt (se_bin op_mulV os_mulV (se_var (pv 7)) (se_var (pv 3))) (se_var (pv 2)) (nomark _)) (sw_or1 (st_cmp op_ge os_ge (se_bin op_mulV os_mulV (se_bin op_sub os_sub (se_var (pv 7)) (se_int)) (se_var (pv 3))) (se_var (pv 2)) (nomark _))))))) (sb_one (ss_ret (se_bl))) (sb_nil)) (sb_one (ss_ret (se_and (se_cmp op_le os_le (se_bin op_mulV os_mulV (se_bin op_sub os_sub (se_bin op_mulV os_mulV (se_int) (se_var (pv 8))) (se_int)) (se_var (pv 3))) (se_bin op_mulV os_mulV (se_int) (se_var (pv 2))) (nomark _)) (se_one (se_cmp op_lt os_lt (se_bin op_mulV os_mulV (se_int) (se_var (pv 2))) (se_bin op_mulV os_mulV (se_bin op_addV os_add (se_bin op_mulV os_mulV (se_int) (se_var (pv 8))) (se_int)) (se_var (pv 3))) (nomark _)))))))))))))))))))))))))))
def B_UlawUlists : StF := sSeq (sAsg 1 (eC (.int 1))) (sSeq (sFor (srSeq (eVar 0)) (tgN 2) (sAsg 1 (eBin oDiv (eBin oMulV (eVar 1) (eCall G_UlawUbottom [eVar 2])) (eCall G_UlawUgcd [eVar 1, eCall G_UlawUbottom [eVar 2]])))) (sSeq (sAsg 3 (eB1 bList (eVar 0))) (sSeq (sFrz 3) (sSeq (sAsg 4 (eCall G_common_bottom [eVar 3])) (sSeq (sFrz 4) (sSeq (sIf (eOr (eNot (eCall G_UlawUisUint [eVar 4])) (eOr (eBin oNe (eVar 4) (eVar 1)) (eBin oNe (eVar 3) (eVar 0)))) (sRet (eC (.bl false))) (sNx)) (sSeq (sAsg 5 (eCall G_least_of [eVar 3])) (sSeq (sFrz 5) (sSeq (sIf (eBin oNe (eVar 3) (eVar 0)) (sRet (eC (.bl false))) (sNx)) (sSeq (sAsg 6 (eCall G_greatest_of [eVar 3])) (sSeq (sFrz 6) (sSeq (sIf (eBin oNe (eVar 3) (eVar 0)) (sRet (eC (.bl false))) (sNx)) (sSeq (sIf (eBin oEq (eB1 bLen (eVar 0)) (eC (.int 0))) (sRet (eAnd (eBin oIsN (eVar 5) (eC .non)) (eBin oIsN (eVar 6) (eC .non)))) (sNx)) (sSeq (sIf (eOr (eNot (eCall G_UlawUisUnumber [eVar 5])) (eOr (eNot (eCall G_UlawUisUnumber [eVar 6])) (eOr (eBin oNotInL (eVar 5) (eVar 0)) (eBin oNotInL (eVar 6) (eVar 0))))) (sRet (eC (.bl false))) (sNx)) (sSeq (sFor (srSeq (eVar 0)) (tgN 2) (sSeq (sIf (eBin oLt (eBin oMulV (eCall G_UlawUtop [eVar 2]) (eCall G_UlawUbottom [eVar 5])) (eBin oMulV (eCall G_UlawUtop [eVar 5]) (eCall G_UlawUbottom [eVar 2]))) (sRet (eC (.bl false))) (sNx)) (sIf (eBin oLt (eBin oMulV (eCall G_UlawUtop [eVar 6]) (eCall G_UlawUbottom [eVar 2])) (eBin oMulV (eCall G_UlawUtop [eVar 2]) (eCall G_UlawUbottom [eVar 6]))) (sRet (eC (.bl false))) (sNx)))) (sRet (eC (.bl true))))))))))))))))))
def G_UlawUlists : Gf := fnRun 1 7 B_UlawUlists
abbrev N_UlawUlists : List Str := ["row", "due", "x", "passed", "told", "least", "most"]
theorem sc_UlawUlists : FnScope N_UlawUlists ["row"] (defScope (top 87)) := ⟨rfl, rfl, rfl, by decide +kernel, rfl, by decide +kernel, by decide +kernel⟩
theorem ok_UlawUlists (T : Tab P w K mg base) : FnS P w K mg base 4 "_law_lists" 1 G_UlawUlists := by
  have C_UlawUbottom := ok_UlawUbottom T
  have C_UlawUgcd := ok_UlawUgcd T
  have C_UlawUisUint := ok_UlawUisUint T
  have C_UlawUisUnumber := ok_UlawUisUnumber T
  have C_UlawUtop := ok_UlawUtop T
  have C_common_bottom := ok_common_bottom T
  have C_greatest_of := ok_greatest_of T
  have C_least_of := ok_least_of T
  obtain ⟨f, fd, hm, F⟩ := T.d_UlawUlists
  refine ⟨f, fd, ["row"], hm, F.kp, F.bindsN fun _ _ _ _ _ _ us hl => (match us, hl with | [_], _ => rfl), rfl, fn_mk F sc_UlawUlists fun cdv A outer s0 H E hr tk hp => ?_⟩
  exact sb_cons (ss_asg (ps_set (i := 1) sc_UlawUlists.nd rfl (Or.inl rfl) (se_int))) (sb_cons (ss_for hp rfl (si_seq (se_var (pv 0))) (pg_name sc_UlawUlists.nd rfl (Or.inl rfl)) tgs_n (sb_one (ss_asg (ps_set (i := 1) sc_UlawUlists.nd rfl (Or.inl rfl) (se_bin op_divV os_div (se_bin op_mulV os_mulV (se_var (pv 1)) (se_call C_UlawUbottom (hr.mono (by decide)) tk rfl rfl (sa_cons (se_var (pv 2)) (sa_nil)))) (se_call C_UlawUgcd (hr.mono (by decide)) tk rfl rfl (sa_cons (se_var (pv 1)) (sa_cons (se_call C_UlawUbottom (hr.mono (by decide)) tk rfl rfl (sa_cons (se_var (pv 2)) (sa_nil))) (sa_nil))))))))) (sb_cons (ss_asg (ps_set (i := 3) sc_UlawUlists.nd rfl (Or.inl rfl) (ar1 (fun ta h => pe_callTy call_list_of rfl T.b_list (by decide +kernel) h) cs_list (se_var (pv 0))))) (sb_frz (sb_cons (ss_asg (ps_set (i := 4) sc_UlawUlists.nd rfl (Or.inl rfl) (se_call C_common_bottom (hr.mono (by decide)) tk rfl rfl (sa_cons (se_var (pv 3)) (sa_nil))))) (sb_frz (sb_cons (ss_if (st_w (sw_or (st_not (st_val (se_call C_UlawUisUint (hr.mono (by decide)) tk rfl rfl (sa_cons (se_var (pv 4)) (sa_nil))))) (sw_or (st_cmp (op_neD hr.units) os_ne (se_var (pv 4)) (se_var (pv 1)) (nomark _)) (sw_or1 (st_cmp (op_neD hr.units) os_ne (se_var (pv 3)) (se_var (pv 0)) (nomark _)))))) (sb_one (ss_ret (se_bl))) (sb_nil)) (sb_cons (ss_asg (ps_set (i := 5) sc_UlawUlists.nd rfl (Or.inl rfl) (se_call C_least_of (hr.mono (by decide)) tk rfl rfl (sa_cons (se_var (pv 3)) (sa_nil))))) (sb_frz (sb_cons (ss_if (st_cmp (op_neD hr.units) os_ne (se_var (pv 3)) (se_var (pv 0)) (nomark _)) (sb_one (ss_ret (se_bl))) (sb_nil)) (sb_cons (ss_asg (ps_set (i := 6) sc_UlawUlists.nd rfl (Or.inl rfl) (se_call C_greatest_of (hr.mono (by decide)) tk rfl rfl (sa_cons (se_var (pv 3)) (sa_nil))))) (sb_frz (sb_cons (ss_if (st_cmp (op_neD hr.units) os_ne (se_var (pv 3)) (se_var (pv 0)) (nomark _)) (sb_one (ss_ret (se_bl))) (sb_nil)) (sb_cons (ss_if (st_cmp (op_eqD hr.units) os_eq (ar1 (fun ta h => pe_callB call_len rfl T.b_len boot_len h) cs_len (se_var (pv 0))) (se_int) (nomark _)) (sb_one (ss_ret (se_and (se_cmp op_isN os_isN (se_var (pv 5)) (se_non) (nomark _)) (se_one (se_cmp op_isN os_isN (se_var (pv 6)) (se_non) (nomark _)))))) (sb_nil)) (sb_cons (ss_if (st_w (sw_or (st_not (st_val (se_call C_UlawUisUnumber (hr.mono (by decide)) tk rfl rfl (sa_cons (se_var (pv 5)) (sa_nil))))) (sw_or (st_not (st_val (se_call C_UlawUisUnumber (hr.mono (by decide)) tk rfl rfl (sa_cons (se_var (pv 6)) (sa_nil))))) (sw_or (st_cmp (op_notInD (units65 hr)) os_notInL (se_var (pv 5)) (se_var (pv 0)) (by rfl)) (sw_or1 (st_cmp (op_notInD (units65 hr)) os_notInL (se_var (pv 6)) (se_var (pv 0)) (by rfl))))))) (sb_one (ss_ret (se_bl))) (sb_nil)) (sb_cons (ss_for hp rfl (si_seq (se_var (pv 0))) (pg_name sc_UlawUlists.nd rfl (Or.inl rfl)) tgs_n (sb_cons (ss_if (st_cmp op_lt os_lt (se_bin op_mulV os_mulV (se_call C_UlawUtop (hr.mono (by decide)) tk rfl rfl (sa_cons (se_var (pv 2)) (sa_nil))) (se_call C_UlawUbottom (hr.mono (by decide)) tk rfl rfl (sa_cons (se_var (pv 5)) (sa_nil)))) (se_bin op_mulV os_mulV (se_call C_UlawUtop (hr.mono (by decide)) tk rfl rfl (sa_cons (se_var (pv 5)) (sa_nil))) (se_call C_UlawUbottom (hr.mono (by decide)) tk rfl rfl (sa_cons (se_var (pv 2)) (sa_nil)))) (nomark _)) (sb_one (ss_ret (se_bl))) (sb_nil)) (sb_one (ss_if (st_cmp op_lt os_lt (se_bin op_mulV os_mulV (se_call C_UlawUtop (hr.mono (by decide)) tk rfl rfl (sa_cons (se_var (pv 6)) (sa_nil))) (se_call C_UlawUbottom (hr.mono (by decide)) tk rfl rfl (sa_cons (se_var (pv 2)) (sa_nil)))) (se_bin op_mulV os_mulV (se_call C_UlawUtop (hr.mono (by decide)) tk rfl rfl (sa_cons (se_var (pv 2)) (sa_nil))) (se_call C_UlawUbottom (hr.mono (by decide)) tk rfl rfl (sa_cons (se_var (pv 6)) (sa_nil)))) (nomark _)) (sb_one (ss_ret (se_bl))) (sb_nil))))) (sb_one (ss_ret (se_bl))))))))))))))))))
noncomputable def B_law : StF := sSeq (sAsg 1 (eCall G_UlawUnumbers [eVar 0, eC (.int 0), eC (.int 8)])) (sSeq (sFrz 1) (sSeq (sAsg 2 (eBin oEq (eBin oMod (eB1 bInt (eBin oIx (eVar 1) (eC (.int 6)))) (eC (.int 4))) (eC (.int 1)))) (sSeq (sAsg 3 (eCall G_UlawUdrawn [eVar 1, eC (.int 0), eVar 2])) (sSeq (sFrz 3) (sSeq (sAsg 4 (eCall G_UlawUdrawn [eVar 1, eC (.int 2), eAnd (eVar 2) (eBin oEq (eBin oMod (eB1 bInt (eBin oIx (eVar 1) (eC (.int 6)))) (eC (.int 3))) (eC (.int 1)))])) (sSeq (sFrz 4) (sSeq (sAsg 5 (eBin oSub (eBin oIx (eVar 1) (eC (.int 0))) (eC (.int 5003)))) (sSeq (sAsg 6 (eBin oAdd (eC (.int 1)) (eBin oMod (eB1 bInt (eBin oIx (eVar 1) (eC (.int 4)))) (eC (.int 60))))) (sSeq (sIf (eBin oEq (eBin oMod (eB1 bInt (eBin oIx (eVar 1) (eC (.int 4)))) (eC (.int 2))) (eC (.int 1))) (sAsg 6 (eUn uNeg (eVar 6))) (sNx)) (sSeq (sIf (eOr (eNot (eCall G_UlawUstands [eCall G_ratio [eVar 5, eVar 6], eVar 5, eVar 6])) (eOr (eNot (eCall G_UlawUnoUratio [eVar 5])) (eNot (eCall G_UlawUnoUquotient [eVar 3])))) (sRet (eC (.bl false))) (sNx)) (sSeq (sIf (eOr (eBin oNe (eCall G_UlawUalone [eC (.int 0), eVar 4]) (eLst [eC (.int 12)])) (eOr (eBin oNe (eCall G_UlawUalone [eC (.int 1), eVar 4]) (eLst [eC (.int 12)])) (eBin oNe (eCall G_UlawUalone [eC (.int 2), eVar 4]) (eLst [eC (.int 18)])))) (sRet (eC (.bl false))) (sNx)) (sSeq (sIf (eOr (eNot (eCall G_UlawUvalues [eVar 3, eVar 4])) (eOr (eNot (eCall G_UlawUvalues [eVar 4, eVar 3])) (eNot (eCall G_UlawUvalues [eVar 3, eVar 3])))) (sRet (eC (.bl false))) (sNx)) (sSeq (sAsg 7 (eCall G_UlawUnumbers [eVar 0, eC (.int 1), eC (.int 14)])) (sSeq (sFrz 7) (sSeq (sAsg 8 (eComp (srR1 (eBin oMod (eB1 bInt (eBin oIx (eVar 1) (eC (.int 5)))) (eC (.int 7)))) (tgN 12) [12] (yes) (eCall G_UlawUdrawn [eVar 7, eBin oMulV (eC (.int 2)) (eVar 12), eVar 2]))) (sSeq (sFrz 8) (sSeq (sIf (eNot (eCall G_UlawUlists [eVar 8])) (sRet (eC (.bl false))) (sNx)) (sSeq (sFor (srSeq (eBin oAdd (eVar 8) (eLst [eVar 3, eVar 4]))) (tgN 9) (sIf (eNot (eCall G_UlawUtexts [eVar 9])) (sRet (eC (.bl false))) (sNx))) (sSeq (sAsg 10 (eLst [eC (.str ""), eC (.str "+3"), eC (.str "03"), eC (.str "-0"), eC (.str "3/1"), eC (.str "2/4"), eC (.str "1/0"), eC (.str "0/5"), eC (.str "1/-2"), eC (.str " 3"), eC (.str "3 "), eC (.str "a"), eC (.str "-"), eC (.str "/2"), eC (.str "3/"), eC (.str "1/2/3"), eC (.str "--3")])) (sSeq (sFrz 10) (sSeq (sAsg 10 (eBin oAdd (eVar 10) (eLst [eC (.str "1/02"), eC (.str "1 /2"), eC (.str "-"), eC (.str "1//2"), eC (.str "00"), eC (.str "0x1"), eC (.str "1.0"), eC (.str "3\n"), eBin oAdd (eC (.str "1")) (eBin oMulV (eC (.str "0")) (eC (.int 400))), eBin oAdd (eC (.str "1/1")) (eBin oMulV (eC (.str "0")) (eC (.int 400)))]))) (sSeq (sFrz 10) (sSeq (sIf (eOr (eNot (eCall G_UlawUnoUtext [eBin oIx (eVar 10) (eBin oMod (eB1 bInt (eBin oIx (eVar 1) (eC (.int 7)))) (eB1 bLen (eVar 10)))])) (eNot (eCall G_UlawUnoUtext [eBin oAdd (eCall G_number_text [eVar 3]) (eC (.str "/7/9"))]))) (sRet (eC (.bl false))) (sNx)) (sSeq (sAsg 11 (eC (.int 1))) (sSeq (sFor (srR1 (eC (.int 399))) (tgN 12) (sSeq (sAsg 11 (eBin oMulV (eVar 11) (eC (.int 10)))) (sSeq (sFrz 11) (sNx)))) (sSeq (sAsg 13 (eBin oAdd (eC (.str "-7/1")) (eBin oMulV (eC (.str "0")) (eC (.int 399))))) (sRet (eAnd (eBin oEq (eCall G_read_number [eBin oAdd (eC (.str "1")) (eBin oMulV (eC (.str "0")) (eC (.int 399)))]) (eVar 11)) (eAnd (eBin oEq (eCall G_read_number [eVar 13]) (eTup [eUn uNeg (eC (.int 7)), eVar 11])) (eBin oEq (eCall G_number_text [eTup [eUn uNeg (eC (.int 7)), eVar 11]]) (eVar 13)))))))))))))))))))))))))))))))
noncomputable def G_law : Gf := fnRun 1 14 B_law
abbrev N_law : List Str := ["script", "numbers", "large", "x", "y", "a", "b", "more", "row", "z", "bad", "due", "k", "long"]
theorem sc_law : FnScope N_law ["script"] (defScope (top 88)) := ⟨rfl, rfl, rfl, by decide +kernel, rfl, by decide +kernel, by decide +kernel⟩
theorem okf_law {f : Addr} {fd : FuncData} (F : FunD K "law" "law" (defArgs (top 88)) (defBody (top 88)) (defScope (top 88)) [] [] f fd) (T : Tab P w K mg base) : FnOk P w K mg base (L2N.CX P w) 5 f fd ["script"] (spG K 1 G_law) := by
  have C_UlawUalone := ok_UlawUalone T
  have C_UlawUdrawn := ok_UlawUdrawn T
  have C_UlawUlists := ok_UlawUlists T
  have C_UlawUnoUquotient := ok_UlawUnoUquotient T
  have C_UlawUnoUratio := ok_UlawUnoUratio T
  have C_UlawUnoUtext := ok_UlawUnoUtext T
  have C_UlawUnumbers := ok_UlawUnumbers T
  have C_UlawUstands := ok_UlawUstands T
  have C_UlawUtexts := ok_UlawUtexts T
  have C_UlawUvalues := ok_UlawUvalues T
  have C_number_text := ok_number_text T
  have C_ratio := ok_ratio T
  have C_read_number := ok_read_number T
  refine fn_mk F sc_law fun cdv A outer s0 H E hr tk hp => ?_
  exact sb_cons (ss_asg (ps_set (i := 1) sc_law.nd rfl (Or.inl rfl) (se_call C_UlawUnumbers (hr.mono (by decide)) tk rfl rfl (sa_cons (se_var (pv 0)) (sa_cons (se_int) (sa_cons (se_int) (sa_nil))))))) (sb_frz (sb_cons (ss_asg (ps_set (i := 2) sc_law.nd rfl (Or.inr rfl) (se_cmp (op_eqD hr.units) os_eq (se_bin op_modN os_mod (ar1 (fun ta h => pe_callTy call_int1 rfl T.b_int (by decide +kernel) h) cs_int (se_ix ix_seq os_ix (se_var (pv 1)) (se_int) (fun _ _ => rfl))) (se_int)) (se_int) (nomark _)))) (sb_cons (ss_asg (ps_set (i := 3) sc_law.nd rfl (Or.inl rfl) (se_call C_UlawUdrawn (hr.mono (by decide)) tk rfl rfl (sa_cons (se_var (pv 1)) (sa_cons (se_int) (sa_cons (se_var (pv 2)) (sa_nil))))))) (sb_frz (sb_cons (ss_asg (ps_set (i := 4) sc_law.nd rfl (Or.inl rfl) (se_call C_UlawUdrawn (hr.mono (by decide)) tk rfl rfl (sa_cons (se_var (pv 1)) (sa_cons (se_int) (sa_cons (se_and (se_var (pv 2)) (se_one (se_cmp (op_eqD hr.units) os_eq (se_bin op_modN os_mod (ar1 (fun ta h => pe_callTy call_int1 rfl T.b_int (by decide +kernel) h) cs_int (se_ix ix_seq os_ix (se_var (pv 1)) (se_int) (fun _ _ => rfl))) (se_int)) (se_int) (nomark _)))) (sa_nil))))))) (sb_frz (sb_cons (ss_asg (ps_set (i := 5) sc_law.nd rfl (Or.inl rfl) (se_bin op_sub os_sub (se_ix ix_seq os_ix (se_var (pv 1)) (se_int) (fun _ _ => rfl)) (se_int)))) (sb_cons (ss_asg (ps_set (i := 6) sc_law.nd rfl (Or.inl rfl) (se_bin op_addV os_add (se_int) (se_bin op_modN os_mod (ar1 (fun ta h => pe_callTy call_int1 rfl T.b_int (by decide +kernel) h) cs_int (se_ix ix_seq os_ix (se_var (pv 1)) (se_int) (fun _ _ => rfl))) (se_int))))) (sb_cons (ss_if (st_cmp (op_eqD hr.units) os_eq (se_bin op_modN os_mod (ar1 (fun ta h => pe_callTy call_int1 rfl T.b_int (by decide +kernel) h) cs_int (se_ix ix_seq os_ix (se_var (pv 1)) (se_int) (fun _ _ => rfl))) (se_int)) (se_int) (nomark _)) (sb_one (ss_asg (ps_set (i := 6) sc_law.nd rfl (Or.inl rfl) (se_un un_neg us_neg (se_var (pv 6)))))) (sb_nil)) (sb_cons (ss_if (st_w (sw_or (st_not (st_val (se_call C_UlawUstands (hr.mono (by decide)) tk rfl rfl (sa_cons (se_call C_ratio (hr.mono (by decide)) tk rfl rfl (sa_cons (se_var (pv 5)) (sa_cons (se_var (pv 6)) (sa_nil)))) (sa_cons (se_var (pv 5)) (sa_cons (se_var (pv 6)) (sa_nil))))))) (sw_or (st_not (st_val (se_call C_UlawUnoUratio (hr.mono (by decide)) tk rfl rfl (sa_cons (se_var (pv 5)) (sa_nil))))) (sw_or1 (st_not (st_val (se_call C_UlawUnoUquotient (hr.mono (by decide)) tk rfl rfl (sa_cons (se_var (pv 3)) (sa_nil))))))))) (sb_one (ss_ret (se_bl))) (sb_nil)) (sb_cons (ss_if (st_w (sw_or (st_cmp (op_neD hr.units) os_ne (se_call C_UlawUalone (hr.mono (by decide)) tk rfl rfl (sa_cons (se_int) (sa_cons (se_var (pv 4)) (sa_nil)))) (se_lst (sa_cons (se_int) (sa_nil))) (nomark _)) (sw_or (st_cmp (op_neD hr.units) os_ne (se_call C_UlawUalone (hr.mono (by decide)) tk rfl rfl (sa_cons (se_int) (sa_cons (se_var (pv 4)) (sa_nil)))) (se_lst (sa_cons (se_int) (sa_nil))) (nomark _)) (sw_or1 (st_cmp (op_neD hr.units) os_ne (se_call C_UlawUalone (hr.mono (by decide)) tk rfl rfl (sa_cons (se_int) (sa_cons (se_var (pv 4)) (sa_nil)))) (se_lst (sa_cons (se_int) (sa_nil))) (nomark _)))))) (sb_one (ss_ret (se_bl))) (sb_nil)) (sb_cons (ss_if (st_w (sw_or (st_not (st_val (se_call C_UlawUvalues (hr.mono (by decide)) tk rfl rfl (sa_cons (se_var (pv 3)) (sa_cons (se_var (pv 4)) (sa_nil)))))) (sw_or (st_not (st_val (se_call C_UlawUvalues (hr.mono (by decide)) tk rfl rfl (sa_cons (se_var (pv 4)) (sa_cons (se_var (pv 3)) (sa_nil)))))) (sw_or1 (st_not (st_val (se_call C_UlawUvalues (hr.mono (by decide)) tk rfl rfl (sa_cons (se_var (pv 3)) (sa_cons (se_var (pv 3)) (sa_nil)))))))))) (sb_one (ss_ret (se_bl))) (sb_nil)) (sb_cons (ss_asg (ps_set (i := 7) sc_law.nd rfl (Or.inr rfl) (se_call C_UlawUnumbers (hr.mono (by decide)) tk rfl rfl (sa_cons (se_var (pv 0)) (sa_cons (se_int) (sa_cons (se_int) (sa_nil))))))) (sb_frz (sb_cons (ss_setCV rfl sc_law.nd rfl rfl (sw_true rfl rfl rfl (by decide +kernel)) (si_r1 rfl T.b_range (se_bin op_modN os_mod (ar1 (fun ta h => pe_callTy call_int1 rfl T.b_int (by decide +kernel) h) cs_int (se_ix ix_seq os_ix (se_var (pv 1)) (se_int) (fun _ _ => rfl))) (se_int))) (blkOk_by (N := N_law) (sc := defScope (top 88)) (own := [("k", 12)]) (by decide +kernel)) rfl (fun _ _ _ _ _ => (pg_name sc_law.nd rfl (Or.inl rfl))) tgs_n (by decide) (fun _ _ _ _ _ => ts_nil) (fun _ _ _ _ _ => se_call C_UlawUdrawn (hr.mono (by decide)) takesN rfl rfl (sa_cons (se_var (pv 7)) (sa_cons (se_bin op_mulV os_mulV (se_int) (se_var (pv 12))) (sa_cons (se_var (pv 2)) (sa_nil)))))) (sb_frz (sb_cons (ss_if (st_not (st_val (se_call C_UlawUlists (hr.mono (by decide)) tk rfl rfl (sa_cons (se_var (pv 8)) (sa_nil))))) (sb_one (ss_ret (se_bl))) (sb_nil)) (sb_cons (ss_for hp rfl (si_seq (se_bin op_addV os_add (se_var (pv 8)) (se_lst (sa_cons (se_var (pv 3)) (sa_cons (se_var (pv 4)) (sa_nil)))))) (pg_name sc_law.nd rfl (Or.inl rfl)) tgs_n (sb_one (ss_if (st_not (st_val (se_call C_UlawUtexts (hr.mono (by decide)) tk rfl rfl (sa_cons (se_var (pv 9)) (sa_nil))))) (sb_one (ss_ret (se_bl))) (sb_nil)))) (sb_cons (ss_asg (ps_set (i := 10) sc_law.nd rfl (Or.inl rfl) (se_lst (sa_cons (se_str) (sa_cons (se_str) (sa_cons (se_str) (sa_cons (se_str) (sa_cons (se_str) (sa_cons (se_str) (sa_cons (se_str) (sa_cons (se_str) (sa_cons (se_str) (sa_cons (se_str) (sa_cons (se_str) (sa_cons (se_str) (sa_cons (se_str) (sa_cons (se_str) (sa_cons (se_str) (sa_cons (se_str) (sa_cons (se_str) (sa_nil))))))))))))))))))))) (sb_frz (sb_cons (ss_asg (ps_set (i := 10) sc_law.nd rfl (Or.inl rfl) (se_bin op_addV os_add (se_var (pv 10)) (se_lst (sa_cons (se_str) (sa_cons (se_str) (sa_cons (se_str) (sa_cons (se_str) (sa_cons (se_str) (sa_cons (se_str) (sa_cons (se_str) (sa_cons (se_str) (sa_cons (se_bin op_addV os_add (se_str) (se_bin op_mulV os_mulV (se_str) (se_int))) (sa_cons (se_bin op_addV os_add (se_str) (se_bin op_mulV os_mulV (se_str) (se_int))) (sa_nil))))))))))))))) (sb_frz (sb_cons (ss_if (st_w (sw_or (st_not (st_val (se_call C_UlawUnoUtext (hr.mono (by decide)) tk rfl rfl (sa_cons (se_ix ix_seq os_ix (se_var (pv 10)) (se_bin op_modN os_mod (ar1 (fun ta h => pe_callTy call_int1 rfl T.b_int (by decide +kernel) h) cs_int (se_ix ix_seq os_ix (se_var (pv 1)) (se_int) (fun _ _ => rfl))) (ar1 (fun ta h => pe_callB call_len rfl T.b_len boot_len h) cs_len (se_var (pv 10)))) (fun _ _ => rfl)) (sa_nil))))) (sw_or1 (st_not (st_val (se_call C_UlawUnoUtext (hr.mono (by decide)) tk rfl rfl (sa_cons (se_bin op_addV os_add (se_call C_number_text (hr.mono (by decide)) tk rfl rfl (sa_cons (se_var (pv 3)) (sa_nil))) (se_str)) (sa_nil)))))))) (sb_one (ss_ret (se_bl))) (sb_nil)) (sb_cons (ss_asg (ps_set (i := 11) sc_law.nd rfl (Or.inl rfl) (se_int))) (sb_cons (ss_for hp rfl (si_r1 rfl T.b_range (se_int)) (pg_name sc_law.nd rfl (Or.inl rfl)) tgs_n (sb_cons (ss_asg (ps_set (i := 11) sc_law.nd rfl (Or.inl rfl) (se_bin op_mulV os_mulV (se_var (pv 11)) (se_int)))) (sb_frz (sb_nil)))) (sb_cons (ss_asg (ps_set (i := 13) sc_law.nd rfl (Or.inl rfl) (se_bin op_addV os_add (se_str) (se_bin op_mulV os_mulV (se_str) (se_int))))) (sb_one (ss_ret (se_and (se_cmp (op_eqD hr.units) os_eq (se_call C_read_number (hr.mono (by decide)) tk rfl rfl (sa_cons (se_bin op_addV os_add (se_str) (se_bin op_mulV os_mulV (se_str) (se_int))) (sa_nil))) (se_var (pv 11)) (nomark _)) (se_and (se_cmp (op_eqD hr.units) os_eq (se_call C_read_number (hr.mono (by decide)) tk rfl rfl (sa_cons (se_var (pv 13)) (sa_nil))) (se_tup (sa_cons (se_un un_neg us_neg (se_int)) (sa_cons (se_var (pv 11)) (sa_nil)))) (nomark _)) (se_one (se_cmp (op_eqD hr.units) os_eq (se_call C_number_text (hr.mono (by decide)) tk rfl rfl (sa_cons (se_tup (sa_cons (se_un un_neg us_neg (se_int)) (sa_cons (se_var (pv 11)) (sa_nil)))) (sa_nil))) (se_var (pv 13)) (nomark _)))))))))))))))))))))))))))))))))
end
end Lw
set_option Elab.async false
set_option linter.all false
set_option maxRecDepth 100000
set_option maxHeartbeats 2000000
namespace Lw
open PySem Pv
/-- a number: a top, a bottom -/
def num (p q : Int) : D := if q = 1 then .int p else .tup [.int p, .int q]
def Sm (x : Int) : Prop := x.natAbs < 2 ^ 1000
theorem num_one (p : Int) : num p 1 = .int p := rfl
theorem num_tup {p q : Int} (h : q ≠ 1) : num p q = .tup [.int p, .int q] := if_neg h
theorem is_whole_num (p q : Int) : G_is_whole [num p q] = okD (.bl (decide (q = 1))) := by
  by_cases h : q = 1
  · subst h
    rfl
  · rw [num_tup h, decide_eq_false h]
    rfl
theorem top_num (p q : Int) : G_top_of [num p q] = okD (.int p) := by
  by_cases h : q = 1
  · subst h
    rfl
  · rw [num_tup h]
    rfl
theorem bottom_num (p q : Int) : G_bottom_of [num p q] = okD (.int q) := by
  by_cases h : q = 1
  · subst h
    rfl
  · rw [num_tup h]
    rfl
theorem ltop_num (p q : Int) : G_UlawUtop [num p q] = okD (.int p) := by
  by_cases h : q = 1
  · subst h
    rfl
  · rw [num_tup h]
    rfl
theorem lbottom_num (p q : Int) : G_UlawUbottom [num p q] = okD (.int q) := by
  by_cases h : q = 1
  · subst h
    rfl
  · rw [num_tup h]
    rfl
theorem is_int_int (i : Int) : G_UlawUisUint [.int i] = okD (.bl true) := rfl
theorem is_int_tup (xs : List D) : G_UlawUisUint [.tup xs] = okD (.bl false) := rfl
theorem ratio_zero (t : Int) : G_ratio [.int t, .int 0] = some (.ex "ZeroBottom") := rfl
end Lw
set_option Elab.async false
set_option linter.all false
set_option maxRecDepth 100000
set_option maxHeartbeats 2000000
namespace Lw
open PySem Pv
theorem ratio_run {t b : Int} (hb : b ≠ 0) (hs : b.natAbs < 2 ^ 4000) : G_ratio [.int t, .int b] = okD (if (Int.gcd t b : Int) = (b.natAbs : Int) then .int ((if b < 0 then -t else t).fdiv (Int.gcd t b)) else .tup [.int ((if b < 0 then -t else t).fdiv (Int.gcd t b)), .int ((b.natAbs : Int).fdiv (Int.gcd t b))]) := by
  have hg : (0 : Int) < (Int.gcd t b : Int) := by
    have := Int.gcd_pos_of_ne_zero_right t hb
    omega
  have hg2 : ((Int.gcd t b : Int)).natAbs < 2 ^ 4000 := by
    have h1 : Int.gcd t b ≤ b.natAbs := Nat.le_of_dvd (by omega) (Int.gcd_dvd_natAbs_right t b)
    rw [Int.natAbs_natCast]
    omega
  have hd := divOk_of hg hg2
  unfold G_ratio B_ratio
  rw [fnRun_ap]
  by_cases hn : b < 0
  · have e : (b.natAbs : Int) = -b := by omega
    by_cases hc : (Int.gcd t b : Int) = -b
    · have hd2 : divOk (-b) = true := hc ▸ hd
      simp [hb, hn, hc, e, oDiv_int, hd2]
    · simp [hb, hn, hc, e, oDiv_int, hd, line]
  · have e : (b.natAbs : Int) = b := by omega
    by_cases hc : (Int.gcd t b : Int) = b
    · have hd2 : divOk b = true := hc ▸ hd
      simp [hb, hn, hc, e, oDiv_int, hd2]
    · simp [hb, hn, hc, e, oDiv_int, hd, line]
/-- what ratio and its like promise -/
structure IsQ (d : D) (p q : Int) : Prop where
  pos : 1 ≤ q
  cop : Int.gcd p q = 1
  eq : d = num p q
theorem norm {t b : Int} (hb : b ≠ 0) : ∃ p q : Int, 1 ≤ q ∧ Int.gcd p q = 1 ∧ p * b = t * q ∧ p.natAbs ≤ t.natAbs ∧ q.natAbs ≤ b.natAbs ∧ (if b < 0 then -t else t).fdiv (Int.gcd t b) = p ∧ (b.natAbs : Int).fdiv (Int.gcd t b) = q ∧ (q = 1 ↔ (Int.gcd t b : Int) = (b.natAbs : Int)) := by
  have hg : 0 < Int.gcd t b := Int.gcd_pos_of_ne_zero_right t hb
  have hgi : (0 : Int) < (Int.gcd t b : Int) := by omega
  obtain ⟨p0, hp⟩ := Int.gcd_dvd_left t b
  obtain ⟨q0, hq⟩ := Int.gcd_dvd_right t b
  have hcop : Int.gcd p0 q0 = 1 := by
    have h1 := Int.gcd_mul_left (Int.gcd t b : Int) p0 q0
    rw [← hp, ← hq, Int.natAbs_natCast] at h1
    have h2 : Int.gcd t b * 1 = Int.gcd t b * Int.gcd p0 q0 := by rw [Nat.mul_one]; exact h1
    exact (Nat.eq_of_mul_eq_mul_left hg h2).symm
  generalize hG : Int.gcd t b = g at *
  have key : ∀ (x y : Int), x = (g : Int) * y → x.fdiv g = y := fun x y e => by
    rw [e, Int.mul_comm, Int.mul_fdiv_cancel _ (by omega)]
  have na : ∀ (x y : Int), x = (g : Int) * y → y.natAbs ≤ x.natAbs := fun x y e => by
    rw [e, Int.natAbs_mul, Int.natAbs_natCast]
    exact Nat.le_mul_of_pos_left _ hg
  by_cases hn : b < 0
  · have hq0 : q0 < 0 := by
      apply Classical.byContradiction
      intro h
      have := Int.mul_nonneg (by omega : (0 : Int) ≤ (g : Int)) (by omega : 0 ≤ q0)
      omega
    refine ⟨-p0, -q0, by omega, by rw [Int.gcd_neg, Int.neg_gcd]; exact hcop, ?_, ?_, ?_, ?_, ?_, ?_⟩
    · rw [hp, hq, Int.neg_mul, Int.mul_neg]
      simp [Int.mul_comm, Int.mul_left_comm, Int.mul_assoc]
    · rw [Int.natAbs_neg]; exact na t p0 hp
    · rw [Int.natAbs_neg]; exact na b q0 hq
    · rw [if_pos hn]
      exact key _ _ (by rw [hp, Int.mul_neg])
    · exact key _ _ (by rw [show (b.natAbs : Int) = -b by omega, hq, Int.mul_neg])
    · rw [show (b.natAbs : Int) = -b by omega, hq]
      constructor
      · intro e
        have : q0 = -1 := by omega
        rw [this]; omega
      · intro e
        have e2 : (g : Int) * (-q0) = (g : Int) * 1 := by rw [Int.mul_neg, Int.mul_one]; omega
        exact Int.eq_of_mul_eq_mul_left (by omega) e2
  · have hq0 : 0 < q0 := by
      apply Classical.byContradiction
      intro h
      have := Int.mul_nonneg (by omega : (0 : Int) ≤ (g : Int)) (by omega : 0 ≤ -q0)
      rw [Int.mul_neg] at this
      omega
    refine ⟨p0, q0, by omega, hcop, ?_, na t p0 hp, na b q0 hq, ?_, ?_, ?_⟩
    · rw [hp, hq]
      simp [Int.mul_comm, Int.mul_left_comm, Int.mul_assoc]
    · rw [if_neg hn]
      exact key _ _ hp
    · exact key _ _ (by rw [show (b.natAbs : Int) = b by omega]; exact hq)
    · rw [show (b.natAbs : Int) = b by omega]
      constructor
      · intro e
        rw [hq, e]; omega
      · intro e
        have e2 : (g : Int) * q0 = (g : Int) * 1 := by rw [Int.mul_one]; omega
        exact Int.eq_of_mul_eq_mul_left (by omega) e2
theorem ratio_ok {t b : Int} (hb : b ≠ 0) (hs : b.natAbs < 2 ^ 4000) : ∃ p q : Int, 1 ≤ q ∧ Int.gcd p q = 1 ∧ p * b = t * q ∧ p.natAbs ≤ t.natAbs ∧ q.natAbs ≤ b.natAbs ∧ G_ratio [.int t, .int b] = okD (num p q) := by
  obtain ⟨p, q, h1, h2, h3, h4, h5, h6, h7, h8⟩ := norm (t := t) hb
  refine ⟨p, q, h1, h2, h3, h4, h5, ?_⟩
  rw [ratio_run hb hs, h6, h7]
  by_cases e : q = 1
  · rw [if_pos (h8.mp e), e]
    rfl
  · rw [if_neg fun z => e (h8.mpr z), num_tup e]
theorem icop {a b c : Int} (h : a ∣ b * c) (g : Int.gcd a b = 1) : a ∣ c := by
  rw [← Int.natAbs_dvd_natAbs, Int.natAbs_mul] at h
  rw [← Int.natAbs_dvd_natAbs]
  exact Nat.Coprime.dvd_of_dvd_mul_left (show Nat.gcd a.natAbs b.natAbs = 1 from g) h
/-- a fraction has one form -/
theorem form_eq {p q p' q' t b : Int} (hb : b ≠ 0) (h1 : 1 ≤ q) (h2 : Int.gcd p q = 1) (h3 : p * b = t * q) (h1' : 1 ≤ q') (h2' : Int.gcd p' q' = 1) (h3' : p' * b = t * q') : p = p' ∧ q = q' := by
  have e : p * q' = p' * q := by
    have : b * (p * q') = b * (p' * q) := by
      calc b * (p * q') = (p * b) * q' := by simp [Int.mul_comm, Int.mul_left_comm, Int.mul_assoc]
        _ = (t * q) * q' := by rw [h3]
        _ = (t * q') * q := by simp [Int.mul_comm, Int.mul_left_comm, Int.mul_assoc]
        _ = (p' * b) * q := by rw [h3']
        _ = b * (p' * q) := by simp [Int.mul_comm, Int.mul_left_comm, Int.mul_assoc]
    exact Int.eq_of_mul_eq_mul_left hb this
  have d1 : q ∣ q' := by
    have : q ∣ p * q' := ⟨p', by rw [e, Int.mul_comm]⟩
    exact icop this (by rw [Int.gcd_comm]; exact h2)
  have d2 : q' ∣ q := by
    have : q' ∣ p' * q := ⟨p, by rw [← e, Int.mul_comm]⟩
    exact icop this (by rw [Int.gcd_comm]; exact h2')
  have eq : q = q' := by
    have l1 := Int.le_of_dvd (by omega) d1
    have l2 := Int.le_of_dvd (by omega) d2
    omega
  refine ⟨?_, eq⟩
  rw [← eq] at e
  exact Int.eq_of_mul_eq_mul_right (by omega) e
end Lw
set_option Elab.async false
set_option linter.all false
set_option maxRecDepth 100000
set_option maxHeartbeats 2000000
namespace Lw
open PySem Pv
theorem Sm.lt {x : Int} (h : Sm x) : x.natAbs < 2 ^ 4000 := Nat.lt_of_lt_of_le h (Nat.pow_le_pow_right (by decide) (by decide))
theorem Sm.mul {x y : Int} (h : Sm x) (k : Sm y) : mulOk x y = true := mulOk_of h.lt k.lt
theorem Sm.mlt {x y : Int} (h : Sm x) (k : Sm y) : (x * y).natAbs < 2 ^ 4000 := by
  rw [Int.natAbs_mul]
  refine Nat.lt_of_lt_of_le (Nat.mul_lt_mul'' h k) ?_
  rw [← Nat.pow_add]
  exact Nat.pow_le_pow_right (by decide) (by decide)
section
variable {p1 q1 p2 q2 : Int}
theorem plus_ok (h1 : 1 ≤ q1) (h2 : 1 ≤ q2) (s1 : Sm p1) (s2 : Sm q1) (s3 : Sm p2) (s4 : Sm q2) :
    ∃ p q : Int, 1 ≤ q ∧ Int.gcd p q = 1 ∧ p * (q1 * q2) = (p1 * q2 + p2 * q1) * q ∧ p.natAbs ≤ (p1 * q2 + p2 * q1).natAbs ∧ q.natAbs ≤ (q1 * q2).natAbs ∧ G_plus [num p1 q1, num p2 q2] = okD (num p q) := by
  by_cases w : q1 = 1 ∧ q2 = 1
  · obtain ⟨rfl, rfl⟩ := w
    refine ⟨p1 + p2, 1, by decide, Int.gcd_one_right .., by simp, by simp, by decide, rfl⟩
  · have hb : q1 * q2 ≠ 0 := Int.mul_ne_zero (by omega) (by omega)
    obtain ⟨p, q, a1, a2, a3, a4, a5, a6⟩ := ratio_ok (t := p1 * q2 + p2 * q1) hb (s2.mlt s4)
    refine ⟨p, q, a1, a2, a3, a4, a5, ?_⟩
    unfold G_plus B_plus
    rw [fnRun_ap]
    by_cases w1 : q1 = 1
    · have w2 : q2 ≠ 1 := fun z => w ⟨w1, z⟩
      simp [is_whole_num, top_num, bottom_num, oMulV_int, s1.mul s4, s3.mul s2, s2.mul s4, a6, eq_true w1, w2]
    · simp [is_whole_num, top_num, bottom_num, oMulV_int, s1.mul s4, s3.mul s2, s2.mul s4, a6, w1]
theorem minus_ok (h1 : 1 ≤ q1) (h2 : 1 ≤ q2) (s1 : Sm p1) (s2 : Sm q1) (s3 : Sm p2) (s4 : Sm q2) :
    ∃ p q : Int, 1 ≤ q ∧ Int.gcd p q = 1 ∧ p * (q1 * q2) = (p1 * q2 - p2 * q1) * q ∧ p.natAbs ≤ (p1 * q2 - p2 * q1).natAbs ∧ q.natAbs ≤ (q1 * q2).natAbs ∧ G_minus [num p1 q1, num p2 q2] = okD (num p q) := by
  by_cases w : q1 = 1 ∧ q2 = 1
  · obtain ⟨rfl, rfl⟩ := w
    refine ⟨p1 - p2, 1, by decide, Int.gcd_one_right .., by simp, by simp, by decide, rfl⟩
  · have hb : q1 * q2 ≠ 0 := Int.mul_ne_zero (by omega) (by omega)
    obtain ⟨p, q, a1, a2, a3, a4, a5, a6⟩ := ratio_ok (t := p1 * q2 - p2 * q1) hb (s2.mlt s4)
    refine ⟨p, q, a1, a2, a3, a4, a5, ?_⟩
    unfold G_minus B_minus
    rw [fnRun_ap]
    by_cases w1 : q1 = 1
    · have w2 : q2 ≠ 1 := fun z => w ⟨w1, z⟩
      simp [is_whole_num, top_num, bottom_num, oMulV_int, s1.mul s4, s3.mul s2, s2.mul s4, a6, eq_true w1, w2]
    · simp [is_whole_num, top_num, bottom_num, oMulV_int, s1.mul s4, s3.mul s2, s2.mul s4, a6, w1]
theorem times_ok (h1 : 1 ≤ q1) (h2 : 1 ≤ q2) (s1 : Sm p1) (s2 : Sm q1) (s3 : Sm p2) (s4 : Sm q2) :
    ∃ p q : Int, 1 ≤ q ∧ Int.gcd p q = 1 ∧ p * (q1 * q2) = (p1 * p2) * q ∧ p.natAbs ≤ (p1 * p2).natAbs ∧ q.natAbs ≤ (q1 * q2).natAbs ∧ G_times [num p1 q1, num p2 q2] = okD (num p q) := by
  by_cases w : q1 = 1 ∧ q2 = 1
  · obtain ⟨rfl, rfl⟩ := w
    refine ⟨p1 * p2, 1, by decide, Int.gcd_one_right .., by simp, by simp, by decide, ?_⟩
    unfold G_times B_times
    rw [fnRun_ap]
    simp [is_whole_num]
    simp [num_one, oMulV_int, s1.mul s3]
  · have hb : q1 * q2 ≠ 0 := Int.mul_ne_zero (by omega) (by omega)
    obtain ⟨p, q, a1, a2, a3, a4, a5, a6⟩ := ratio_ok (t := p1 * p2) hb (s2.mlt s4)
    refine ⟨p, q, a1, a2, a3, a4, a5, ?_⟩
    unfold G_times B_times
    rw [fnRun_ap]
    by_cases w1 : q1 = 1
    · have w2 : q2 ≠ 1 := fun z => w ⟨w1, z⟩
      simp [is_whole_num, top_num, bottom_num, oMulV_int, s1.mul s3, s2.mul s4, a6, eq_true w1, w2]
    · simp [is_whole_num, top_num, bottom_num, oMulV_int, s1.mul s3, s2.mul s4, a6, w1]
theorem over_ok (h1 : 1 ≤ q1) (h2 : 1 ≤ q2) (s1 : Sm p1) (s2 : Sm q1) (s3 : Sm p2) (s4 : Sm q2) (hp : p2 ≠ 0) :
    ∃ p q : Int, 1 ≤ q ∧ Int.gcd p q = 1 ∧ p * (q1 * p2) = (p1 * q2) * q ∧ p.natAbs ≤ (p1 * q2).natAbs ∧ q.natAbs ≤ (q1 * p2).natAbs ∧ G_over [num p1 q1, num p2 q2] = okD (num p q) := by
  have hb : q1 * p2 ≠ 0 := Int.mul_ne_zero (by omega) hp
  obtain ⟨p, q, a1, a2, a3, a4, a5, a6⟩ := ratio_ok (t := p1 * q2) hb (s2.mlt s3)
  refine ⟨p, q, a1, a2, a3, a4, a5, ?_⟩
  unfold G_over B_over
  rw [fnRun_ap]
  simp [top_num, bottom_num, oMulV_int, s1.mul s4, s2.mul s3, a6, hp]
theorem over_zero (p q : Int) : G_over [num p q, .int 0] = some (.ex "ZeroBottom") := by
  have e : G_over [num p q, num 0 1] = some (.ex "ZeroBottom") := by
    unfold G_over B_over
    rw [fnRun_ap]
    simp [top_num]
  exact e
theorem less_ok (s1 : Sm p1) (s2 : Sm q1) (s3 : Sm p2) (s4 : Sm q2) : G_less [num p1 q1, num p2 q2] = okD (.bl (decide (p1 * q2 < p2 * q1))) := by
  unfold G_less B_less
  rw [fnRun_ap]
  simp [top_num, bottom_num, oMulV_int, s1.mul s4, s3.mul s2]
theorem floor_ok (h1 : 1 ≤ q1) (s2 : Sm q1) : G_floor_of [num p1 q1] = okD (.int (p1.fdiv q1)) := by
  unfold G_floor_of B_floor_of
  rw [fnRun_ap]
  simp [top_num, bottom_num, oDiv_int, divOk_of (by omega : 0 < q1) s2.lt]
theorem ceil_ok (h1 : 1 ≤ q1) (s2 : Sm q1) : G_ceiling_of [num p1 q1] = okD (.int (-((-p1).fdiv q1))) := by
  unfold G_ceiling_of B_ceiling_of
  rw [fnRun_ap]
  simp [top_num, bottom_num, oDiv_int, divOk_of (by omega : 0 < q1) s2.lt]
theorem sm_two : Sm 2 := by unfold Sm; exact Nat.lt_of_lt_of_le (by decide : (2 : Int).natAbs < 2 ^ 2) (Nat.pow_le_pow_right (by decide) (by decide))
theorem near_ok (h1 : 1 ≤ q1) (s1 : Sm p1) (s2 : Sm q1) : G_nearest [num p1 q1] = okD (.int ((2 * p1 + q1).fdiv (2 * q1))) := by
  unfold G_nearest B_nearest
  rw [fnRun_ap]
  simp [top_num, bottom_num, oDiv_int, oMulV_int, sm_two.mul s1, sm_two.mul s2, divOk_of (by omega : 0 < 2 * q1) (sm_two.mlt s2)]
end
/-! ### the law's own gcd -/
def euc : Nat → Int → Int → Int
  | 0, a, _ => a
  | n + 1, a, b => if b = 0 then a else euc n b (a.fmod b)
theorem gcd_step (a b : Int) (hb : 0 ≤ b) : Int.gcd a b = Int.gcd b (a.fmod b) := by
  have e : a = a.fmod b + a.fdiv b * b := by
    have := Int.mul_fdiv_add_fmod a b
    rw [Int.mul_comm] at this
    omega
  have h := Int.gcd_add_mul_right_right b (a.fmod b) (a.fdiv b)
  rw [← e] at h
  rw [Int.gcd_comm, h]
theorem euc_gcd (k : Nat) : ∀ (m : Nat) (a b : Int), 0 ≤ a → 0 ≤ b → b.toNat < 2 ^ m → euc (2 * m + k + 1) a b = Int.gcd a b
  | 0, a, b, ha, hb, h => by
    have e : b = 0 := by omega
    subst e
    show (if (0 : Int) = 0 then a else euc (2 * 0 + k) 0 (a.fmod 0)) = _
    rw [if_pos rfl, Int.gcd_zero_right]
    omega
  | m + 1, a, b, ha, hb, h => by
    rw [show 2 * (m + 1) + k + 1 = (2 * m + k + 1) + 1 + 1 by omega]
    show (if b = 0 then a else (if a.fmod b = 0 then b else euc (2 * m + k + 1) (a.fmod b) (b.fmod (a.fmod b)))) = _
    by_cases z : b = 0
    · subst z
      rw [if_pos rfl, Int.gcd_zero_right]
      omega
    · rw [if_neg z]
      have hr0 : 0 ≤ a.fmod b := Int.fmod_nonneg_of_pos a (by omega)
      have hr1 : a.fmod b < b := Int.fmod_lt_of_pos a (by omega)
      have g1 := gcd_step a b hb
      by_cases z2 : a.fmod b = 0
      · rw [if_pos z2, g1, z2, Int.gcd_zero_right]
        omega
      · rw [if_neg z2]
        have hs0 : 0 ≤ b.fmod (a.fmod b) := Int.fmod_nonneg_of_pos b (by omega)
        have hs1 : b.fmod (a.fmod b) < a.fmod b := Int.fmod_lt_of_pos b (by omega)
        have g2 := gcd_step b (a.fmod b) hr0
        have hh : b.fmod (a.fmod b) * 2 < b + 1 := by
          have e := Int.mul_fdiv_add_fmod b (a.fmod b)
          have q1 : 1 ≤ b.fdiv (a.fmod b) := by
            rw [Int.fdiv_eq_ediv_of_nonneg b hr0]
            exact Int.le_ediv_of_mul_le (by omega) (by omega)
          have : a.fmod b * 1 ≤ a.fmod b * b.fdiv (a.fmod b) := Int.mul_le_mul_of_nonneg_left q1 hr0
          omega
        rw [euc_gcd k m _ _ hr0 hs0 (by rw [Nat.pow_succ] at h; omega), g1, g2]
end Lw
set_option Elab.async false
set_option linter.all false
set_option maxRecDepth 100000
set_option maxHeartbeats 2000000
namespace Lw
open PySem Pv
def eucB : StF := sSeq (sIf (eBin oEq (eVar 1) (eC (.int 0))) (sBrk) (sNx)) (sPar 0 1 (eVar 1) (eBin oMod (eB1 bInt (eVar 0)) (eVar 1)))
theorem euc_loop : ∀ (n : Nat) (lo a b : Int) (s : Sl), ∃ (b' : Int) (s' : Sl), loop (tgN 2) eucB (intsD n lo) [.va (.int a), .va (.int b), s] = some (.nx [.va (.int (euc n a b)), .va (.int b'), s'])
  | 0, lo, a, b, s => ⟨b, s, rfl⟩
  | n + 1, lo, a, b, s => by
    rw [show intsD (n + 1) lo = .int lo :: intsD n (lo + 1) from rfl, loop_cons]
    by_cases z : b = 0
    · refine ⟨b, .va (.int lo), ?_⟩
      unfold eucB euc
      simp [z]
    · obtain ⟨b', s', h⟩ := euc_loop n (lo + 1) b (a.fmod b) (.va (.int lo))
      refine ⟨b', s', ?_⟩
      rw [show euc (n + 1) a b = euc n b (a.fmod b) from if_neg z, ← h]
      conv => lhs; unfold eucB
      simp [z, oMod_int]
      rfl
theorem lgcd_ok {a b : Int} (h : b.natAbs < 2 ^ 900) : G_UlawUgcd [.int a, .int b] = okD (.int (Int.gcd a b)) := by
  unfold G_UlawUgcd B_UlawUgcd
  rw [fnRun_ap]
  have key : ∀ x y : Int, y.natAbs < 2 ^ 900 → 0 ≤ x → 0 ≤ y → Int.gcd a b = Int.gcd x y → ∃ (b' : Int) (s' : Sl), loop (tgN 2) eucB (intsD 2000 0) [.va (.int x), .va (.int y), .un] = some (.nx [.va (.int (Int.gcd a b)), .va (.int b'), s']) := fun x y hy h0 h1 e => by
    obtain ⟨b', s', q⟩ := euc_loop 2000 0 x y .un
    refine ⟨b', s', ?_⟩
    rw [q, e, show (2000 : Nat) = 2 * 900 + 199 + 1 from rfl, euc_gcd 199 900 x y h0 h1 (by omega)]
  have hr : rgOk 2000 = true := by decide
  obtain ⟨b', s', q⟩ := key (if a < 0 then -a else a) (if b < 0 then -b else b) (by split <;> omega) (by split <;> omega) (by split <;> omega) (by
    have e1 : Int.gcd (if a < 0 then -a else a) (if b < 0 then -b else b) = Int.gcd a b := by
      split <;> split <;> simp
    exact e1.symm)
  unfold eucB at q
  simp [hr, q]
theorem is_number_num {p q : Int} (h1 : 1 ≤ q) (h2 : Int.gcd p q = 1) (hs : q.natAbs < 2 ^ 900) : G_UlawUisUnumber [num p q] = okD (.bl true) := by
  by_cases e : q = 1
  · subst e
    rfl
  · rw [num_tup e]
    unfold G_UlawUisUnumber B_UlawUisUnumber
    rw [fnRun_ap]
    have h3 : 2 ≤ q := by omega
    simp [is_int_int, is_int_tup, bIs, isT, bLen, oIx, atI, lgcd_ok hs, h2, h3]
theorem stands_ok {p q t b : Int} (h1 : 1 ≤ q) (h2 : Int.gcd p q = 1) (h3 : p * b = t * q) (hq : q.natAbs < 2 ^ 900) (m1 : mulOk p b = true) (m2 : mulOk t q = true) : G_UlawUstands [num p q, .int t, .int b] = okD (.bl true) := by
  unfold G_UlawUstands B_UlawUstands
  rw [fnRun_ap]
  simp [is_number_num h1 h2 hq, ltop_num, lbottom_num, oMulV_int, m1, m2, h3]
theorem make_ok {t b : Int} (hb : 1 ≤ b) (hs : b.natAbs < 2 ^ 900) : ∃ p q : Int, 1 ≤ q ∧ Int.gcd p q = 1 ∧ p * b = t * q ∧ p.natAbs ≤ t.natAbs ∧ q.natAbs ≤ b.natAbs ∧ G_UlawUmake [.int t, .int b] = okD (num p q) := by
  obtain ⟨p, q, h1, h2, h3, h4, h5, h6, h7, h8⟩ := norm (t := t) (b := b) (by omega)
  refine ⟨p, q, h1, h2, h3, h4, h5, ?_⟩
  have hg : (0 : Int) < (Int.gcd t b : Int) := by
    have := Int.gcd_pos_of_ne_zero_right t (by omega : b ≠ 0)
    omega
  have hd : divOk (Int.gcd t b) = true := by
    refine divOk_of hg ?_
    have h1 : Int.gcd t b ≤ b.natAbs := Nat.le_of_dvd (by omega) (Int.gcd_dvd_natAbs_right t b)
    rw [Int.natAbs_natCast]
    exact Nat.lt_of_le_of_lt h1 (Nat.lt_of_lt_of_le hs (Nat.pow_le_pow_right (by decide) (by decide)))
  have hn : ¬ b < 0 := by omega
  rw [if_neg hn] at h6
  rw [show (b.natAbs : Int) = b by omega] at h7
  unfold G_UlawUmake B_UlawUmake
  rw [fnRun_ap]
  by_cases e : q = 1
  · simp [lgcd_ok hs, oDiv_int, hd, hn, h6, h7, eq_true e, line]
    rw [e]
    rfl
  · simp [lgcd_ok hs, oDiv_int, hd, hn, h6, h7, e, line, num_tup e]
end Lw
set_option Elab.async false
set_option linter.all false
set_option maxRecDepth 100000
set_option maxHeartbeats 4000000
namespace Lw
open PySem Pv
theorem fd_key {a b : Int} (hb : 1 ≤ b) : ∃ d r : Int, a.fdiv b = d ∧ 0 ≤ r ∧ r < b ∧ d * b = a - r ∧ d.natAbs ≤ a.natAbs := by
  have e := Int.mul_fdiv_add_fmod a b
  have r0 : 0 ≤ a.fmod b := Int.fmod_nonneg_of_pos a (by omega)
  have r1 : a.fmod b < b := Int.fmod_lt_of_pos a (by omega)
  generalize hd : a.fdiv b = d at *
  generalize hr : a.fmod b = r at *
  refine ⟨d, r, rfl, r0, r1, by rw [Int.mul_comm]; omega, ?_⟩
  by_cases h0 : 0 ≤ d
  · have := Int.mul_le_mul_of_nonneg_right hb h0
    omega
  · have h1 : 0 ≤ -(d + 1) := by omega
    have := Int.mul_le_mul_of_nonneg_right hb h1
    rw [Int.mul_neg b, Int.mul_add, Int.mul_one] at this
    omega
def Sx (x : Int) : Prop := x.natAbs < 2 ^ 200
theorem p2 {n m k : Nat} {x : Nat} (h : x < 2 ^ n) (l : n ≤ m) : x < 2 ^ m := Nat.lt_of_lt_of_le h (Nat.pow_le_pow_right (by decide) l)
theorem pm {x y : Int} {n m : Nat} (h : x.natAbs < 2 ^ n) (k : y.natAbs < 2 ^ m) : (x * y).natAbs < 2 ^ (n + m) := by
  rw [Int.natAbs_mul, Nat.pow_add]
  exact Nat.mul_lt_mul'' h k
theorem pa {x y : Int} {n : Nat} (h : x.natAbs < 2 ^ n) (k : y.natAbs < 2 ^ n) : (x + y).natAbs < 2 ^ (n + 1) := by
  have := Int.natAbs_add_le x y
  rw [Nat.pow_succ]
  omega
theorem ps {x y : Int} {n : Nat} (h : x.natAbs < 2 ^ n) (k : y.natAbs < 2 ^ n) : (x - y).natAbs < 2 ^ (n + 1) := by
  rw [Int.sub_eq_add_neg]
  exact pa h (by rw [Int.natAbs_neg]; exact k)
theorem mk {x y : Int} {n m : Nat} (h : x.natAbs < 2 ^ n) (k : y.natAbs < 2 ^ m) (hn : n ≤ 4000 := by decide) (hm : m ≤ 4000 := by decide) : mulOk x y = true := mulOk_of (p2 (k := 0) h hn) (p2 (k := 0) k hm)
theorem round_facts {a b : Int} (hb : 1 ≤ b) : ∃ d1 d2 d3 : Int, a.fdiv b = d1 ∧ (-a).fdiv b = d2 ∧ (2 * a + b).fdiv (2 * b) = d3 ∧ d1.natAbs ≤ a.natAbs ∧ (-d2).natAbs ≤ a.natAbs ∧ d3.natAbs ≤ (2 * a + b).natAbs ∧
    ¬ a < d1 * b ∧ ¬ (d1 + 1) * b ≤ a ∧ ¬ (-d2) * b < a ∧ ¬ a ≤ (-d2 - 1) * b ∧ (2 * d3 - 1) * b ≤ 2 * a ∧ 2 * a < (2 * d3 + 1) * b := by
  obtain ⟨d1, r1, e1, f1, g1, h1, n1⟩ := fd_key (a := a) hb
  obtain ⟨d2, r2, e2, f2, g2, h2, n2⟩ := fd_key (a := -a) hb
  obtain ⟨d3, r3, e3, f3, g3, h3, n3⟩ := fd_key (a := 2 * a + b) (b := 2 * b) (by omega)
  have h3' : 2 * (d3 * b) = 2 * a + b - r3 := by rw [← h3]; simp [Int.mul_left_comm]
  clear n3
  refine ⟨d1, d2, d3, e1, e2, e3, n1, by rw [Int.natAbs_neg, ← Int.natAbs_neg a]; exact n2, by rw [← e3]; exact (fd_key (a := 2 * a + b) (b := 2 * b) (by omega)).elim fun d h => h.elim fun r h => by rw [h.1]; exact h.2.2.2.2, ?_, ?_, ?_, ?_, ?_, ?_⟩
  all_goals clear n1 n2
  · omega
  · rw [Int.add_mul, Int.one_mul]; omega
  · rw [Int.neg_mul]; omega
  · rw [Int.sub_mul, Int.neg_mul, Int.one_mul]; omega
  · rw [Int.sub_mul, Int.one_mul, Int.mul_assoc]; omega
  · rw [Int.add_mul, Int.one_mul, Int.mul_assoc]; omega
theorem values_ok {a b c e : Int} (hb : 1 ≤ b) (he : 1 ≤ e) (sa : Sx a) (sb : Sx b) (sc : Sx c) (se : Sx e) : G_UlawUvalues [num a b, num c e] = okD (.bl true) := by
  have Sm1 : ∀ {x : Int}, Sx x → Sm x := fun h => p2 (k := 0) h (by decide)
  unfold Sx at sa sb sc se
  obtain ⟨p1, q1, a11, a12, a13, a14, a15, a16⟩ := plus_ok (p1 := a) (q1 := b) (p2 := c) (q2 := e) hb he (Sm1 sa) (Sm1 sb) (Sm1 sc) (Sm1 se)
  obtain ⟨p2', q2, a21, a22, a23, a24, a25, a26⟩ := minus_ok (p1 := a) (q1 := b) (p2 := c) (q2 := e) hb he (Sm1 sa) (Sm1 sb) (Sm1 sc) (Sm1 se)
  obtain ⟨p3, q3, a31, a32, a33, a34, a35, a36⟩ := times_ok (p1 := a) (q1 := b) (p2 := c) (q2 := e) hb he (Sm1 sa) (Sm1 sb) (Sm1 sc) (Sm1 se)
  have Bt1 := pa (pm sa se) (pm sc sb)
  have Bt2 := ps (pm sa se) (pm sc sb)
  have Bt3 := pm sa sc
  have Bb := pm sb se
  have bq : ∀ {q x : Int}, q.natAbs ≤ x.natAbs → x.natAbs < 2 ^ 400 → q.natAbs < 2 ^ 900 := fun h k => p2 (k := 0) (Nat.lt_of_le_of_lt h k) (by decide)
  have bp : ∀ {q x : Int}, q.natAbs ≤ x.natAbs → x.natAbs < 2 ^ 401 → q.natAbs < 2 ^ 401 := fun h k => Nat.lt_of_le_of_lt h k
  have st1 := stands_ok (p := p1) (q := q1) (t := a * e + c * b) (b := b * e) a11 a12 a13 (bq a15 Bb) (mk (bp a14 Bt1) Bb) (mk Bt1 (bq a15 Bb))
  have st2 := stands_ok (p := p2') (q := q2) (t := a * e - c * b) (b := b * e) a21 a22 a23 (bq a25 Bb) (mk (bp a24 Bt2) Bb) (mk Bt2 (bq a25 Bb))
  have st3 := stands_ok (p := p3) (q := q3) (t := a * c) (b := b * e) a31 a32 a33 (bq a35 Bb) (mk (Nat.lt_of_le_of_lt a34 Bt3) Bb) (mk Bt3 (bq a35 Bb))
  have lss := less_ok (p1 := a) (q1 := b) (p2 := c) (q2 := e) (Sm1 sa) (Sm1 sb) (Sm1 sc) (Sm1 se)
  have flo := floor_ok (p1 := a) hb (Sm1 sb)
  have cei := ceil_ok (p1 := a) hb (Sm1 sb)
  have nea := near_ok (p1 := a) hb (Sm1 sa) (Sm1 sb)
  obtain ⟨d1, d2, d3, e1, e2, e3, n1, n2, n3, L1, L2, L3, L4, L5, L6⟩ := round_facts (a := a) hb
  rw [e1] at flo
  rw [e2] at cei
  rw [e3] at nea
  have one : (1 : Int).natAbs < 2 ^ 200 := by decide
  have sd1 : d1.natAbs < 2 ^ 200 := Nat.lt_of_le_of_lt n1 sa
  have sd2 : (-d2).natAbs < 2 ^ 200 := Nat.lt_of_le_of_lt n2 sa
  have sd3 : d3.natAbs < 2 ^ 203 := Nat.lt_of_le_of_lt n3 (pa (pm (n := 2) (show (2 : Int).natAbs < 2 ^ 2 by decide) sa) (p2 (k := 0) (m := 202) sb (by decide)))
  have two : (2 : Int).natAbs < 2 ^ 2 := by decide
  have m1 := mk sa se
  have m2 := mk sc sb
  have m3 := mk sb se
  have m4 := mk sa sc
  have m5 := mk sb sc
  have m6 := mk sd1 sb
  have m7 := mk (pa sd1 one) sb
  have m8 := mk sd2 sb
  have m9 := mk (ps sd2 one) sb
  have m10 := mk two sd3
  have m11 := mk two sa
  have m12 : mulOk (2 * d3 - 1) b = true := mk (ps (pm two sd3) (p2 (k := 0) (m := 205) one (by decide))) sb
  have m13 : mulOk (2 * d3 + 1) b = true := mk (pa (pm two sd3) (p2 (k := 0) (m := 205) one (by decide))) sb
  refine fnRun_rt rfl ?_
  unfold B_UlawUvalues
  refine sSeq_to (by simp [ltop_num]; rfl) ?_
  refine sSeq_to (by simp; rfl) ?_
  refine sSeq_to (by simp [lbottom_num]; rfl) ?_
  refine sSeq_to (by simp; rfl) ?_
  refine sSeq_to (by simp [ltop_num]; rfl) ?_
  refine sSeq_to (by simp; rfl) ?_
  refine sSeq_to (by simp [lbottom_num]; rfl) ?_
  refine sSeq_to (by simp; rfl) ?_
  refine sSeq_to (by simp [oMulV_int, m1, m2, m3, a16, a26, st1, st2]; rfl) ?_
  refine sSeq_to (by simp [oMulV_int, m3, m4, a36, st3]; rfl) ?_
  have ov : ∀ τ : Ev, τ = [.va (num a b), .va (num c e), .va (.int a), .va (.int b), .va (.int c), .va (.int e), .un, .un, .un] → sIf (eAnd (eBin oNe (eVar 4) (eC (.int 0))) (eNot (eCall G_UlawUstands [eCall G_over [eVar 0, eVar 1], eBin oMulV (eVar 2) (eVar 5), eBin oMulV (eVar 3) (eVar 4)]))) (sRet (eC (.bl false))) (sNx) τ = some (.nx τ) := fun τ hτ => by
    subst hτ
    by_cases hc : c = 0
    · simp [eq_true hc]
    · obtain ⟨p4, q4, a41, a42, a43, a44, a45, a46⟩ := over_ok (p1 := a) (q1 := b) (p2 := c) (q2 := e) hb he (Sm1 sa) (Sm1 sb) (Sm1 sc) (Sm1 se) hc
      have Bt4 := pm sa se
      have Bb4 := pm sb sc
      have st4 := stands_ok (p := p4) (q := q4) (t := a * e) (b := b * c) a41 a42 a43 (bq a45 Bb4) (mk (Nat.lt_of_le_of_lt a44 Bt4) Bb4) (mk Bt4 (bq a45 Bb4))
      simp [hc, a46, st4, oMulV_int, m1, m5]
  refine sSeq_to (ov _ rfl) ?_
  refine sSeq_to (by simp [oMulV_int, m1, m2, lss]; rfl) ?_
  refine sSeq_to (by simp [top_num, bottom_num, is_int_int]; rfl) ?_
  refine sSeq_to (by simp [is_whole_num]; rfl) ?_
  refine sSeq_to (by simp [flo]; rfl) ?_
  refine sSeq_to (by simp; rfl) ?_
  refine sSeq_to (by simp [cei]; rfl) ?_
  refine sSeq_to (by simp; rfl) ?_
  refine sSeq_to (by simp [nea]; rfl) ?_
  refine sSeq_to (by simp; rfl) ?_
  refine sSeq_to (by simp [is_int_int]; rfl) ?_
  refine sSeq_to (by simp [oMulV_int, m6, m7, m8, m9, L1, L2, L3, L4]; rfl) ?_
  simp [oMulV_int, m10, m11, m12, m13, L5, L6]
end Lw
set_option Elab.async false
set_option linter.all false
set_option maxRecDepth 100000
set_option maxHeartbeats 2000000
namespace Lw
open PySem Pv
abbrev Pr := Int × Int
def nd (r : Pr) : D := num r.1 r.2
/-- a drawn number -/
structure Ok (r : Pr) : Prop where
  pos : 1 ≤ r.2
  sb : r.2.natAbs < 2 ^ 6
  st : r.1.natAbs < 2 ^ 200
  cop : Int.gcd r.1 r.2 = 1
theorem Ok.s1 {r : Pr} (h : Ok r) : Sm r.1 := p2 (k := 0) h.st (by decide)
theorem Ok.s2 {r : Pr} (h : Ok r) : Sm r.2 := p2 (k := 0) h.sb (by decide)
theorem Ok.x2 {r : Pr} (h : Ok r) : Sx r.2 := p2 (k := 0) h.sb (by decide)
def lcmF (d : Int) : List Pr → Int
  | [] => d
  | r :: rs => lcmF (Int.lcm d r.2) rs
theorem lcm_fdiv {d b : Int} (h1 : 1 ≤ d) (h2 : 1 ≤ b) : (d * b).fdiv (Int.gcd d b) = (Int.lcm d b : Int) := by
  obtain ⟨m, rfl⟩ := Int.eq_ofNat_of_zero_le (by omega : 0 ≤ d)
  obtain ⟨n, rfl⟩ := Int.eq_ofNat_of_zero_le (by omega : 0 ≤ b)
  rw [← Int.natCast_mul, Int.fdiv_eq_ediv_of_nonneg _ (by omega)]
  rfl
theorem lcm_pos {d b : Int} (h1 : 1 ≤ d) (h2 : 1 ≤ b) : 1 ≤ (Int.lcm d b : Int) := by
  have : 0 < Int.lcm d b := Nat.lcm_pos (by omega) (by omega)
  omega
theorem lcm_sz {d b : Int} {n : Nat} (hd : d.natAbs < 2 ^ n) (hb : b.natAbs < 2 ^ 6) (h1 : 1 ≤ d) (h2 : 1 ≤ b) : ((Int.lcm d b : Nat) : Int).natAbs < 2 ^ (n + 6) := by
  rw [Int.natAbs_natCast]
  have : Int.lcm d b ≤ d.natAbs * b.natAbs := by
    show Nat.lcm d.natAbs b.natAbs ≤ _
    exact Nat.le_of_dvd (Nat.mul_pos (by omega) (by omega)) (Nat.lcm_dvd (Nat.dvd_mul_right _ _) (Nat.dvd_mul_left _ _))
  rw [Nat.pow_add]
  exact Nat.lt_of_le_of_lt this (Nat.mul_lt_mul'' hd hb)
def dueB : StF := sAsg 1 (eBin oDiv (eBin oMulV (eVar 1) (eCall G_UlawUbottom [eVar 2])) (eCall G_UlawUgcd [eVar 1, eCall G_UlawUbottom [eVar 2]]))
theorem due_loop (w : Sl) : ∀ (rs : List Pr) (d : Int) (n : Nat) (s : Sl), (∀ r ∈ rs, Ok r) → 1 ≤ d → d.natAbs < 2 ^ n → n + 6 * rs.length ≤ 800 →
    ∃ s', loop (tgN 2) dueB (rs.map nd) [w, .va (.int d), s, .un, .un, .un, .un] = some (.nx [w, .va (.int (lcmF d rs)), s', .un, .un, .un, .un])
  | [], d, n, s, _, _, _, _ => ⟨s, rfl⟩
  | r :: rs, d, n, s, h, h1, hd, hn => by
    have hr := h r List.mem_cons_self
    simp only [List.length_cons] at hn
    obtain ⟨s', q⟩ := due_loop w rs (Int.lcm d r.2) (n + 6) (.va (nd r)) (fun x hx => h x (List.mem_cons_of_mem _ hx)) (lcm_pos h1 hr.pos) (lcm_sz hd hr.sb h1 hr.pos) (by omega)
    refine ⟨s', ?_⟩
    rw [show (r :: rs).map nd = nd r :: rs.map nd from rfl, loop_cons, show lcmF d (r :: rs) = lcmF (Int.lcm d r.2) rs from rfl, ← q]
    have hg : (0 : Int) < (Int.gcd d r.2 : Int) := by
      have := Int.gcd_pos_of_ne_zero_left r.2 (by omega : d ≠ 0)
      omega
    have hdv : divOk (Int.gcd d r.2) = true := by
      refine divOk_of hg ?_
      have h1 : Int.gcd d r.2 ≤ r.2.natAbs := Nat.le_of_dvd (by have := hr.pos; omega) (Int.gcd_dvd_natAbs_right d r.2)
      rw [Int.natAbs_natCast]
      exact Nat.lt_of_le_of_lt h1 (p2 (k := 0) hr.sb (by decide))
    have hm : mulOk d r.2 = true := mulOk_of (p2 (k := 0) hd (by omega)) (p2 (k := 0) hr.sb (by decide))
    have hb : sAsg 1 (eBin oDiv (eBin oMulV (eVar 1) (eCall G_UlawUbottom [eVar 2])) (eCall G_UlawUgcd [eVar 1, eCall G_UlawUbottom [eVar 2]])) [w, .va (.int d), .va (nd r), .un, .un, .un, .un] = some (.nx [w, .va (.int (Int.lcm d r.2)), .va (nd r), .un, .un, .un, .un]) := by
      simp [nd, lbottom_num, oMulV_int, hm, lgcd_ok (p2 (k := 0) hr.sb (by decide)), oDiv_int, hdv, lcm_fdiv h1 hr.pos]
    unfold dueB at *
    simp only [tgN_ap, List.set_cons_succ, List.set_cons_zero, hb]
theorem oLcm_int {i j : Int} (h : Pw.lcmOk i j = true) : Pw.oLcm' (.int i) (.int j) = some (.v (.int (Int.lcm i j))) := if_pos h

def comB : StF := sAsg 1 (eB2 Pw.oLcm' (eVar 1) (eCall G_bottom_of [eVar 2]))
theorem com_loop (w : Sl) : ∀ (rs : List Pr) (d : Int) (n : Nat) (s : Sl), (∀ r ∈ rs, Ok r) → 1 ≤ d → d.natAbs < 2 ^ n → n + 6 * rs.length ≤ 800 →
    ∃ s', loop (tgN 2) comB (rs.map nd) [w, .va (.int d), s] = some (.nx [w, .va (.int (lcmF d rs)), s'])
  | [], d, n, s, _, _, _, _ => ⟨s, rfl⟩
  | r :: rs, d, n, s, h, h1, hd, hn => by
    have hr := h r List.mem_cons_self
    simp only [List.length_cons] at hn
    obtain ⟨s', q⟩ := com_loop w rs (Int.lcm d r.2) (n + 6) (.va (nd r)) (fun x hx => h x (List.mem_cons_of_mem _ hx)) (lcm_pos h1 hr.pos) (lcm_sz hd hr.sb h1 hr.pos) (by omega)
    refine ⟨s', ?_⟩
    rw [show (r :: rs).map nd = nd r :: rs.map nd from rfl, loop_cons, show lcmF d (r :: rs) = lcmF (Int.lcm d r.2) rs from rfl, ← q]
    have hl : Pw.lcmOk d r.2 = true := by
      have a1 := log2_lt (p2 (k := 0) (m := 1000) hd (by omega)) (by decide)
      have a2 := log2_lt hr.sb (by decide)
      unfold Pw.lcmOk
      rw [decide_eq_true (by omega), decide_eq_true (by omega)]
      rfl
    have hb : sAsg 1 (eB2 Pw.oLcm' (eVar 1) (eCall G_bottom_of [eVar 2])) [w, .va (.int d), .va (nd r)] = some (.nx [w, .va (.int (Int.lcm d r.2)), .va (nd r)]) := by
      simp [nd, bottom_num, oLcm_int hl]
    unfold comB at *
    simp only [tgN_ap, List.set_cons_succ, List.set_cons_zero, hb]
theorem common_ok {rs : List Pr} (h : ∀ r ∈ rs, Ok r) (hl : rs.length ≤ 100) : G_common_bottom [.lst (rs.map nd)] = okD (.int (lcmF 1 rs)) := by
  obtain ⟨s', q⟩ := com_loop (.va (.lst (rs.map nd))) rs 1 1 .un h (by decide) (by decide) (by omega)
  refine fnRun_rt rfl ?_
  unfold B_common_bottom
  unfold comB at q
  refine sSeq_to (by simp; rfl) ?_
  refine sSeq_to (τ' := [.va (.lst (rs.map nd)), .va (.int (lcmF 1 rs)), s']) (by simp [q]) ?_
  simp
/-! ### least, greatest -/
def leF (o : Option Pr) (r : Pr) : Option Pr := match o with
  | none => some r
  | some b => if r.1 * b.2 < b.1 * r.2 then some r else some b
def grF (o : Option Pr) (r : Pr) : Option Pr := match o with
  | none => some r
  | some b => if b.1 * r.2 < r.1 * b.2 then some r else some b
def od : Option Pr → D
  | none => .non
  | some r => nd r
theorem isN_nd (r : Pr) : oIsN (nd r) .non = some (.v (.bl false)) := by
  unfold nd num
  split <;> rfl
theorem isN_non : oIsN .non .non = some (.v (.bl true)) := rfl
def leB : StF := sIf (eOr (eBin oIsN (eVar 1) (eC .non)) (eCall G_less [eVar 2, eVar 1])) (sSeq (sAsg 1 (eVar 2)) (sSeq (sFrz 1) (sNx))) (sNx)
def grB : StF := sIf (eOr (eBin oIsN (eVar 1) (eC .non)) (eCall G_less [eVar 1, eVar 2])) (sSeq (sAsg 1 (eVar 2)) (sSeq (sFrz 1) (sNx))) (sNx)
def okO : Option Pr → Prop
  | none => True
  | some r => Ok r
theorem le_loop (w : Sl) : ∀ (rs : List Pr) (o : Option Pr) (s : Sl), (∀ r ∈ rs, Ok r) → okO o → ∃ s', loop (tgN 2) leB (rs.map nd) [w, .va (od o), s] = some (.nx [w, .va (od (rs.foldl leF o)), s'])
  | [], o, s, _, _ => ⟨s, rfl⟩
  | r :: rs, o, s, h, ho => by
    have hr := h r List.mem_cons_self
    have ho' : okO (leF o r) := by
      cases o with
      | none => exact hr
      | some b =>
        show okO (if r.1 * b.2 < b.1 * r.2 then some r else some b)
        by_cases z : r.1 * b.2 < b.1 * r.2
        · rw [if_pos z]; exact hr
        · rw [if_neg z]; exact ho
    obtain ⟨s', q⟩ := le_loop w rs (leF o r) (.va (nd r)) (fun x hx => h x (List.mem_cons_of_mem _ hx)) ho'
    refine ⟨s', ?_⟩
    rw [show (r :: rs).map nd = nd r :: rs.map nd from rfl, loop_cons, show (r :: rs).foldl leF o = rs.foldl leF (leF o r) from rfl, ← q]
    have hb : leB [w, .va (od o), .va (nd r)] = some (.nx [w, .va (od (leF o r)), .va (nd r)]) := by
      unfold leB
      cases o with
      | none => simp [od, isN_non, leF]
      | some b =>
        have hb : Ok b := ho
        have e : G_less [nd r, nd b] = okD (.bl (decide (r.1 * b.2 < b.1 * r.2))) := less_ok hr.s1 hr.s2 hb.s1 hb.s2
        unfold leF
        by_cases z : r.1 * b.2 < b.1 * r.2
        · simp [od, isN_nd, e, z]
        · simp [od, isN_nd, e, z]
    simp only [tgN_ap, List.set_cons_succ, List.set_cons_zero, hb]
theorem gr_loop (w : Sl) : ∀ (rs : List Pr) (o : Option Pr) (s : Sl), (∀ r ∈ rs, Ok r) → okO o → ∃ s', loop (tgN 2) grB (rs.map nd) [w, .va (od o), s] = some (.nx [w, .va (od (rs.foldl grF o)), s'])
  | [], o, s, _, _ => ⟨s, rfl⟩
  | r :: rs, o, s, h, ho => by
    have hr := h r List.mem_cons_self
    have ho' : okO (grF o r) := by
      cases o with
      | none => exact hr
      | some b =>
        show okO (if b.1 * r.2 < r.1 * b.2 then some r else some b)
        by_cases z : b.1 * r.2 < r.1 * b.2
        · rw [if_pos z]; exact hr
        · rw [if_neg z]; exact ho
    obtain ⟨s', q⟩ := gr_loop w rs (grF o r) (.va (nd r)) (fun x hx => h x (List.mem_cons_of_mem _ hx)) ho'
    refine ⟨s', ?_⟩
    rw [show (r :: rs).map nd = nd r :: rs.map nd from rfl, loop_cons, show (r :: rs).foldl grF o = rs.foldl grF (grF o r) from rfl, ← q]
    have hb : grB [w, .va (od o), .va (nd r)] = some (.nx [w, .va (od (grF o r)), .va (nd r)]) := by
      unfold grB
      cases o with
      | none => simp [od, isN_non, grF]
      | some b =>
        have hb : Ok b := ho
        have e : G_less [nd b, nd r] = okD (.bl (decide (b.1 * r.2 < r.1 * b.2))) := less_ok hb.s1 hb.s2 hr.s1 hr.s2
        unfold grF
        by_cases z : b.1 * r.2 < r.1 * b.2
        · simp [od, isN_nd, e, z]
        · simp [od, isN_nd, e, z]
    simp only [tgN_ap, List.set_cons_succ, List.set_cons_zero, hb]
theorem least_ok {rs : List Pr} (h : ∀ r ∈ rs, Ok r) : G_least_of [.lst (rs.map nd)] = okD (od (rs.foldl leF none)) := by
  obtain ⟨s', q⟩ := le_loop (.va (.lst (rs.map nd))) rs none .un h trivial
  refine fnRun_rt rfl ?_
  unfold B_least_of
  unfold leB at q
  refine sSeq_to (by simp; rfl) ?_
  refine sSeq_to (τ' := [.va (.lst (rs.map nd)), .va (od (rs.foldl leF none)), s']) (by simp; exact q) ?_
  simp
theorem greatest_ok {rs : List Pr} (h : ∀ r ∈ rs, Ok r) : G_greatest_of [.lst (rs.map nd)] = okD (od (rs.foldl grF none)) := by
  obtain ⟨s', q⟩ := gr_loop (.va (.lst (rs.map nd))) rs none .un h trivial
  refine fnRun_rt rfl ?_
  unfold B_greatest_of
  unfold grB at q
  refine sSeq_to (by simp; rfl) ?_
  refine sSeq_to (τ' := [.va (.lst (rs.map nd)), .va (od (rs.foldl grF none)), s']) (by simp; exact q) ?_
  simp
end Lw
set_option Elab.async false
set_option linter.all false
set_option maxRecDepth 100000
set_option maxHeartbeats 2000000
namespace Lw
open PySem Pv
/-! ### order of numbers -/
def lq (m r : Pr) : Prop := m.1 * r.2 ≤ r.1 * m.2
theorem lq_refl (m : Pr) : lq m m := Int.le_refl _
theorem lq_trans {m n r : Pr} (hm : 1 ≤ m.2) (hn : 1 ≤ n.2) (hr : 1 ≤ r.2) (h1 : lq m n) (h2 : lq n r) : lq m r := by
  have a1 := Int.mul_le_mul_of_nonneg_right h1 (by omega : 0 ≤ r.2)
  have a2 := Int.mul_le_mul_of_nonneg_right h2 (by omega : 0 ≤ m.2)
  have a3 : n.2 * (m.1 * r.2) ≤ n.2 * (r.1 * m.2) := by
    calc n.2 * (m.1 * r.2) = m.1 * n.2 * r.2 := by simp [Int.mul_comm, Int.mul_left_comm]
      _ ≤ n.1 * m.2 * r.2 := a1
      _ = n.1 * r.2 * m.2 := by simp [Int.mul_comm, Int.mul_left_comm]
      _ ≤ r.1 * n.2 * m.2 := a2
      _ = n.2 * (r.1 * m.2) := by simp [Int.mul_comm, Int.mul_left_comm]
  exact Int.le_of_mul_le_mul_left a3 (by omega)
theorem lq_total (m r : Pr) : lq m r ∨ lq r m := Int.le_total _ _
theorem least_spec : ∀ (rs : List Pr) (b : Pr), (∀ r ∈ rs, Ok r) → Ok b → ∃ m, rs.foldl leF (some b) = some m ∧ Ok m ∧ (m = b ∨ m ∈ rs) ∧ lq m b ∧ ∀ r ∈ rs, lq m r
  | [], b, _, hb => ⟨b, rfl, hb, .inl rfl, lq_refl b, fun r hr => by simp at hr⟩
  | x :: rs, b, h, hb => by
    have hx := h x List.mem_cons_self
    have hrs : ∀ r ∈ rs, Ok r := fun r hr => h r (List.mem_cons_of_mem _ hr)
    have e : (x :: rs).foldl leF (some b) = rs.foldl leF (if x.1 * b.2 < b.1 * x.2 then some x else some b) := rfl
    rw [e]
    by_cases z : x.1 * b.2 < b.1 * x.2
    · rw [if_pos z]
      obtain ⟨m, e1, hm, hin, l1, l2⟩ := least_spec rs x hrs hx
      refine ⟨m, e1, hm, .inr ?_, lq_trans hm.pos hx.pos hb.pos l1 (Int.le_of_lt z), fun r hr => ?_⟩
      · rcases hin with rfl | hin
        · exact List.mem_cons_self
        · exact List.mem_cons_of_mem _ hin
      · rcases List.mem_cons.mp hr with rfl | hr
        · exact l1
        · exact l2 r hr
    · rw [if_neg z]
      obtain ⟨m, e1, hm, hin, l1, l2⟩ := least_spec rs b hrs hb
      refine ⟨m, e1, hm, hin.imp id (List.mem_cons_of_mem _), l1, fun r hr => ?_⟩
      rcases List.mem_cons.mp hr with rfl | hr
      · exact lq_trans hm.pos hb.pos hx.pos l1 (by show b.1 * r.2 ≤ r.1 * b.2; omega)
      · exact l2 r hr
theorem great_spec : ∀ (rs : List Pr) (b : Pr), (∀ r ∈ rs, Ok r) → Ok b → ∃ m, rs.foldl grF (some b) = some m ∧ Ok m ∧ (m = b ∨ m ∈ rs) ∧ lq b m ∧ ∀ r ∈ rs, lq r m
  | [], b, _, hb => ⟨b, rfl, hb, .inl rfl, lq_refl b, fun r hr => by simp at hr⟩
  | x :: rs, b, h, hb => by
    have hx := h x List.mem_cons_self
    have hrs : ∀ r ∈ rs, Ok r := fun r hr => h r (List.mem_cons_of_mem _ hr)
    have e : (x :: rs).foldl grF (some b) = rs.foldl grF (if b.1 * x.2 < x.1 * b.2 then some x else some b) := rfl
    rw [e]
    by_cases z : b.1 * x.2 < x.1 * b.2
    · rw [if_pos z]
      obtain ⟨m, e1, hm, hin, l1, l2⟩ := great_spec rs x hrs hx
      refine ⟨m, e1, hm, .inr ?_, lq_trans hb.pos hx.pos hm.pos (Int.le_of_lt z) l1, fun r hr => ?_⟩
      · rcases hin with rfl | hin
        · exact List.mem_cons_self
        · exact List.mem_cons_of_mem _ hin
      · rcases List.mem_cons.mp hr with rfl | hr
        · exact l1
        · exact l2 r hr
    · rw [if_neg z]
      obtain ⟨m, e1, hm, hin, l1, l2⟩ := great_spec rs b hrs hb
      refine ⟨m, e1, hm, hin.imp id (List.mem_cons_of_mem _), l1, fun r hr => ?_⟩
      rcases List.mem_cons.mp hr with rfl | hr
      · exact lq_trans hx.pos hb.pos hm.pos (by show r.1 * b.2 ≤ b.1 * r.2; omega) l1
      · exact l2 r hr
/-! ### equality of rows -/
theorem fit_nd (n : Nat) (r : Pr) : (nd r).fit (n + 1) = true := by
  unfold nd num
  split <;> rfl
theorem fits_nd (n : Nat) : ∀ rs : List Pr, D.fits (n + 1) (rs.map nd) = true
  | [] => rfl
  | r :: rs => by
    show (D.fit (n + 1) (nd r) && D.fits (n + 1) (rs.map nd)) = true
    rw [fit_nd, fits_nd n rs]
    rfl
theorem eqv_nd (r : Pr) : (nd r).eqv (nd r) = true := by
  unfold nd num
  split
  · show (r.1 == r.1) = true
    simp
  · show ((r.1 == r.1) && ((r.2 == r.2) && true)) = true
    simp
theorem eqvs_nd : ∀ rs : List Pr, D.eqvs (rs.map nd) (rs.map nd) = true
  | [] => rfl
  | r :: rs => by
    show ((nd r).eqv (nd r) && D.eqvs (rs.map nd) (rs.map nd)) = true
    rw [eqv_nd, eqvs_nd rs]
    rfl
theorem ne_row (rs : List Pr) : oNe (.lst (rs.map nd)) (.lst (rs.map nd)) = some (.v (.bl false)) := by
  have h : (D.fit 60 (.lst (rs.map nd)) && D.fit 60 (.lst (rs.map nd))) = true := by
    show (D.fits 59 (rs.map nd) && D.fits 59 (rs.map nd)) = true
    rw [fits_nd 58]
    rfl
  unfold oNe
  rw [if_pos h]
  show some (R.v (.bl (!D.eqvs (rs.map nd) (rs.map nd)))) = _
  rw [eqvs_nd]
  rfl
theorem eq_nd (r : Pr) : oEq (nd r) (nd r) = some (.v (.bl true)) := by
  unfold oEq
  rw [if_pos (by rw [fit_nd 59]; rfl), eqv_nd]
theorem inD_nd {r : Pr} {rs : List Pr} (h : r ∈ rs) : inD (nd r) (rs.map nd) = true := by
  unfold inD
  exact List.any_eq_true.mpr ⟨nd r, List.mem_map.mpr ⟨r, h, rfl⟩, eqv_nd r⟩
theorem notIn_nd {r : Pr} {rs : List Pr} (h : r ∈ rs) : oNotInL (nd r) (.lst (rs.map nd)) = some (.v (.bl false)) := by
  have z : (D.fit 60 (nd r) && D.fits 59 (rs.map nd)) = true := by rw [fit_nd 59, fits_nd 58]; rfl
  have e : oNotInL (nd r) (.lst (rs.map nd)) = (if ((nd r).fit 60 && D.fits 59 (rs.map nd)) = true then some (.v (.bl (!inD (nd r) (rs.map nd)))) else none) := by
    cases hh : nd r <;> rfl
  rw [e, if_pos z, inD_nd h]
  rfl
def endB : StF := sSeq (sIf (eBin oLt (eBin oMulV (eCall G_UlawUtop [eVar 2]) (eCall G_UlawUbottom [eVar 5])) (eBin oMulV (eCall G_UlawUtop [eVar 5]) (eCall G_UlawUbottom [eVar 2]))) (sRet (eC (.bl false))) (sNx)) (sIf (eBin oLt (eBin oMulV (eCall G_UlawUtop [eVar 6]) (eCall G_UlawUbottom [eVar 2])) (eBin oMulV (eCall G_UlawUtop [eVar 2]) (eCall G_UlawUbottom [eVar 6]))) (sRet (eC (.bl false))) (sNx))
theorem end_loop (a b c e : Sl) (l m : Pr) (hl : Ok l) (hm : Ok m) : ∀ (rs : List Pr) (s : Sl), (∀ r ∈ rs, Ok r) → (∀ r ∈ rs, lq l r) → (∀ r ∈ rs, lq r m) →
    ∃ s', loop (tgN 2) endB (rs.map nd) [a, b, s, c, e, .va (nd l), .va (nd m)] = some (.nx [a, b, s', c, e, .va (nd l), .va (nd m)])
  | [], s, _, _, _ => ⟨s, rfl⟩
  | r :: rs, s, h, h1, h2 => by
    have hr := h r List.mem_cons_self
    obtain ⟨s', q⟩ := end_loop a b c e l m hl hm rs (.va (nd r)) (fun x hx => h x (List.mem_cons_of_mem _ hx)) (fun x hx => h1 x (List.mem_cons_of_mem _ hx)) (fun x hx => h2 x (List.mem_cons_of_mem _ hx))
    refine ⟨s', ?_⟩
    have z1 : ¬ r.1 * l.2 < l.1 * r.2 := Int.not_lt.mpr (h1 r List.mem_cons_self)
    have z2 : ¬ m.1 * r.2 < r.1 * m.2 := Int.not_lt.mpr (h2 r List.mem_cons_self)
    rw [show (r :: rs).map nd = nd r :: rs.map nd from rfl, loop_cons, ← q]
    have hb : endB [a, b, .va (nd r), c, e, .va (nd l), .va (nd m)] = some (.nx [a, b, .va (nd r), c, e, .va (nd l), .va (nd m)]) := by
      unfold endB
      refine sSeq_to (by simp [nd, ltop_num, lbottom_num, oMulV_int, hr.s1.mul hl.s2, hl.s1.mul hr.s2, z1]; rfl) ?_
      simp [nd, ltop_num, lbottom_num, oMulV_int, hm.s1.mul hr.s2, hr.s1.mul hm.s2, z2]
    simp only [tgN_ap, List.set_cons_succ, List.set_cons_zero, hb]
theorem is_number_nd {r : Pr} (h : Ok r) : G_UlawUisUnumber [nd r] = okD (.bl true) := is_number_num h.pos h.cop (p2 (k := 0) h.sb (by decide))
theorem lists_ok {rs : List Pr} (h : ∀ r ∈ rs, Ok r) (hn : rs.length ≤ 100) : G_UlawUlists [.lst (rs.map nd)] = okD (.bl true) := by
  obtain ⟨s1, q1⟩ := due_loop (.va (.lst (rs.map nd))) rs 1 1 .un h (by decide) (by decide) (by omega)
  refine fnRun_rt rfl ?_
  unfold B_UlawUlists
  unfold dueB at q1
  refine sSeq_to (by simp; rfl) ?_
  refine sSeq_to (τ' := [.va (.lst (rs.map nd)), .va (.int (lcmF 1 rs)), s1, .un, .un, .un, .un]) (by simp [q1]) ?_
  refine sSeq_to (by simp [bList]; rfl) ?_
  refine sSeq_to (by simp; rfl) ?_
  refine sSeq_to (by simp [common_ok h hn]; rfl) ?_
  refine sSeq_to (by simp; rfl) ?_
  refine sSeq_to (by simp [is_int_int, ne_row]; rfl) ?_
  refine sSeq_to (by simp [least_ok h]; rfl) ?_
  refine sSeq_to (by simp; rfl) ?_
  refine sSeq_to (by simp [ne_row]; rfl) ?_
  refine sSeq_to (by simp [greatest_ok h]; rfl) ?_
  refine sSeq_to (by simp; rfl) ?_
  refine sSeq_to (by simp [ne_row]; rfl) ?_
  cases rs with
  | nil => 
    refine sSeq_rt ?_
    simp [bLen, od, isN_non]
  | cons x rs =>
    have hx := h x List.mem_cons_self
    obtain ⟨l, e1, hl, hin1, l1, l2⟩ := least_spec rs x (fun r hr => h r (List.mem_cons_of_mem _ hr)) hx
    obtain ⟨m, e2, hm, hin2, m1, m2⟩ := great_spec rs x (fun r hr => h r (List.mem_cons_of_mem _ hr)) hx
    have e1' : (x :: rs).foldl leF none = some l := e1
    have e2' : (x :: rs).foldl grF none = some m := e2
    have i1 : l ∈ x :: rs := hin1.elim (fun e => by rw [e]; exact List.mem_cons_self) (List.mem_cons_of_mem _)
    have i2 : m ∈ x :: rs := hin2.elim (fun e => by rw [e]; exact List.mem_cons_self) (List.mem_cons_of_mem _)
    have ll : ∀ r ∈ x :: rs, lq l r := fun r hr => by
      rcases List.mem_cons.mp hr with rfl | hr
      · exact l1
      · exact l2 r hr
    have mm : ∀ r ∈ x :: rs, lq r m := fun r hr => by
      rcases List.mem_cons.mp hr with rfl | hr
      · exact m1
      · exact m2 r hr
    rw [e1', e2']
    have ln : ¬ (((x :: rs).map nd).length : Int) = 0 := by simp; omega
    refine sSeq_to (τ' := [.va (.lst ((x :: rs).map nd)), .va (.int (lcmF 1 (x :: rs))), s1, .va (.lst ((x :: rs).map nd)), .va (.int (lcmF 1 (x :: rs))), .va (nd l), .va (nd m)]) (by simp only [sIf_ap, eBin_ap, eB1_ap, eVar_ap, List.getD_cons_zero, bd_ok, Rd_v, bLen, okR_some, eC_ap, oEq_int, sd_ok, asB_bl, Option.elim, ln, decide_false, sNx_ap, od]; rfl) ?_
    refine sSeq_to (by simp [is_number_nd hl, is_number_nd hm, notIn_nd i1, notIn_nd i2, -List.map_cons]; rfl) ?_
    obtain ⟨s2, q2⟩ := end_loop (.va (.lst ((x :: rs).map nd))) (.va (.int (lcmF 1 (x :: rs)))) (.va (.lst ((x :: rs).map nd))) (.va (.int (lcmF 1 (x :: rs)))) l m hl hm (x :: rs) s1 h ll mm
    unfold endB at q2
    refine sSeq_to (τ' := [.va (.lst ((x :: rs).map nd)), .va (.int (lcmF 1 (x :: rs))), s2, .va (.lst ((x :: rs).map nd)), .va (.int (lcmF 1 (x :: rs))), .va (nd l), .va (nd m)]) (by simp only [sFor_ap, srSeq_ap, eVar_ap, List.getD_cons_zero, srB_ok, Rd_v]; exact q2) ?_
    simp
end Lw
set_option Elab.async false
set_option linter.all false
set_option maxRecDepth 100000
set_option maxHeartbeats 2000000
namespace Lw
open PySem Pv
/-! ### texts -/
def S (l : List Nat) : Str := ⟨l.toArray⟩
theorem S_to (x : Str) : S x.cps.toList = x := by
  obtain ⟨⟨l⟩⟩ := x
  rfl
theorem to_S (l : List Nat) : (S l).cps.toList = l := rfl
theorem S_app (a b : List Nat) : S a ++ S b = S (a ++ b) := by
  rw [← S_to (S a ++ S b), PyProof.Rows.cps_toList_append]
  rfl
theorem S_len (l : List Nat) : (S l).length = l.length := by
  show l.toArray.size = l.length
  simp
def dg (n : Nat) : List Nat := (Nat.toDigits 10 n).map Char.toNat
def tx (i : Int) : List Nat := if i < 0 then 45 :: dg i.natAbs else dg i.natAbs
theorem dr {ch : Char} (h : ch.isDigit = true) : 48 ≤ ch.toNat ∧ ch.toNat ≤ 57 := PyProof.Rows.digit_range h
theorem dg_all (n : Nat) : NumText.AllDigits (dg n) := fun c hc => by
  obtain ⟨ch, hc, e⟩ := List.mem_map.mp hc
  have := dr (Nat.isDigit_of_mem_toDigits (by decide) (by decide) hc)
  omega
theorem dg_ne (n : Nat) : dg n ≠ [] := fun h => by
  have h1 := @Nat.length_toDigits_pos 10 n
  unfold dg at h
  rw [List.map_eq_nil_iff] at h
  rw [h] at h1
  exact Nat.lt_irrefl 0 h1
theorem dg_val (n : Nat) : NumText.digitsVal (dg n) = n := by
  have e := @Nat.ofDigitChars_toDigits 10 n (by decide) (by decide)
  unfold NumText.digitsVal dg
  rw [List.foldl_map]
  unfold Nat.ofDigitChars at e
  have z : (fun (x : Nat) (y : Char) => x * 10 + (y.toNat - 48)) = fun sofar c => 10 * sofar + (c.toNat - '0'.toNat) := by
    funext x y
    rw [Nat.mul_comm]
    rfl
  rw [z]
  exact e
theorem dg_len {n k : Nat} (hk : 0 < k) (h : n < 10 ^ k) : (dg n).length ≤ k := by
  unfold dg
  rw [List.length_map]
  exact (Nat.length_toDigits_le_iff (by decide) hk).mpr h
theorem tx_ok (i : Int) : ((toString i : String) : Str) = S (tx i) := by
  rw [← S_to ((toString i : String) : Str), PyProof.Rows.signs_ofString]
  congr 1
  rw [Int.toString_eq_repr, Int.repr_eq_if]
  unfold tx dg
  split
  · rename_i h
    rw [if_neg (by omega), Nat.toList_repr]
    congr 2
    omega
  · rename_i h
    rw [if_pos (by omega), String.toList_append, List.map_append, Nat.toList_repr]
    have e : (-i).toNat = i.natAbs := by omega
    rw [e]
    rfl

/-! ### a numeral is read -/
abbrev dgs : Str := "0123456789"
theorem in_dgs (c : Nat) : decide (c ∈ dgs.cps.toList) = decide (48 ≤ c ∧ c ≤ 57) := by
  have e : dgs.cps.toList = [48, 49, 50, 51, 52, 53, 54, 55, 56, 57] := by decide +kernel
  rw [e]
  by_cases h : 48 ≤ c ∧ c ≤ 57
  · rw [decide_eq_true h]
    refine decide_eq_true ?_
    simp only [List.mem_cons, List.not_mem_nil, or_false]
    omega
  · rw [decide_eq_false h]
    refine decide_eq_false ?_
    simp only [List.mem_cons, List.not_mem_nil, or_false]
    omega
theorem notIn_sign (c : Nat) : oNotInS (.str ⟨#[c]⟩) (.str dgs) = some (.v (.bl (!decide (48 ≤ c ∧ c ≤ 57)))) := by
  rw [← in_dgs c]
  rfl
def digB : StF := sIf (eBin oNotInS (eVar 1) (eC (.str "0123456789"))) (sRaise "BadText") (sNx)
theorem dig_step (w s : Sl) (c : Nat) : digB [w, .va (.str ⟨#[c]⟩)] = (if 48 ≤ c ∧ c ≤ 57 then some (.nx [w, .va (.str ⟨#[c]⟩)]) else some (.ex "BadText" [w, .va (.str ⟨#[c]⟩)])) := by
  unfold digB
  have e := notIn_sign c
  by_cases h : 48 ≤ c ∧ c ≤ 57
  · rw [if_pos h]
    rw [decide_eq_true h] at e
    simp only [sIf_ap, eBin_ap, eVar_ap, List.getD_cons_succ, List.getD_cons_zero, bd_ok, Rd_v, eC_ap, e, okR_some, sd_ok, asB_bl, Option.elim, sNx_ap]
    rfl
  · rw [if_neg h]
    rw [decide_eq_false h] at e
    simp only [sIf_ap, eBin_ap, eVar_ap, List.getD_cons_succ, List.getD_cons_zero, bd_ok, Rd_v, eC_ap, e, okR_some, sd_ok, asB_bl, Option.elim, sRaise_ap]
    rfl
def sg (l : List Nat) : List D := l.map fun c => .str ⟨#[c]⟩
theorem dig_loop (w : Sl) : ∀ (l : List Nat) (s : Sl), NumText.AllDigits l → ∃ s', loop (tgN 1) digB (sg l) [w, s] = some (.nx [w, s'])
  | [], s, _ => ⟨s, rfl⟩
  | c :: l, s, h => by
    obtain ⟨s', q⟩ := dig_loop w l (.va (.str ⟨#[c]⟩)) h.tail
    refine ⟨s', ?_⟩
    rw [show sg (c :: l) = .str ⟨#[c]⟩ :: sg l from rfl, loop_cons, ← q]
    simp only [tgN_ap, List.set_cons_succ, List.set_cons_zero, dig_step w s c, if_pos h.head]
theorem dig_bad (w : Sl) (c : Nat) (hc : ¬ (48 ≤ c ∧ c ≤ 57)) : ∀ (l : List Nat) (s : Sl), c ∈ l → ∃ τ, loop (tgN 1) digB (sg l) [w, s] = some (.ex "BadText" τ)
  | [], s, h => by simp at h
  | d :: l, s, h => by
    rw [show sg (d :: l) = .str ⟨#[d]⟩ :: sg l from rfl, loop_cons]
    simp only [tgN_ap, List.set_cons_succ, List.set_cons_zero, dig_step w s d]
    by_cases z : 48 ≤ d ∧ d ≤ 57
    · rw [if_pos z]
      rcases List.mem_cons.mp h with rfl | h
      · exact absurd z hc
      · exact dig_bad w c hc l _ h
    · rw [if_neg z]
      exact ⟨_, rfl⟩
/-- plain signs -/
def Pl (l : List Nat) : Prop := ∀ c ∈ l, c < 128
theorem fit_S {l : List Nat} (h : Pl l) (n : Nat) : (D.str (S l)).fit n = true := by
  have e : (D.str (S l)).fit n = l.all fun c => decide (c < 128) := by cases n <;> rfl
  rw [e]
  exact List.all_eq_true.mpr fun c hc => decide_eq_true (h c hc)
theorem eq_S {a b : List Nat} (ha : Pl a) (hb : Pl b) : oEq (.str (S a)) (.str (S b)) = some (.v (.bl (decide (a = b)))) := by
  unfold oEq
  rw [fit_S ha, fit_S hb, if_pos (show (true && true) = true from rfl)]
  show some (R.v (.bl (S a == S b))) = _
  congr 3
  by_cases z : a = b
  · subst z
    simp
  · rw [decide_eq_false z]
    refine beq_eq_false_iff_ne.mpr fun e => z ?_
    rw [← to_S a, e, to_S]
theorem ne_S {a b : List Nat} (ha : Pl a) (hb : Pl b) : oNe (.str (S a)) (.str (S b)) = some (.v (.bl (!decide (a = b)))) := by
  have e := eq_S ha hb
  unfold oEq at e
  unfold oNe
  rw [fit_S ha, fit_S hb, if_pos (show (true && true) = true from rfl)] at e ⊢
  have e2 : (D.str (S a)).eqv (.str (S b)) = decide (a = b) := by
    have := Option.some.inj e
    exact D.bl.inj (R.v.inj this)
  rw [e2]
theorem AD.pl {l : List Nat} (h : NumText.AllDigits l) : Pl l := fun c hc => by have := h c hc; omega
theorem S_nil : ("" : Str) = S [] := by decide +kernel
theorem numeral_ok {l : List Nat} (h : NumText.AllDigits l) (h1 : l ≠ []) (h2 : l.length ≤ 400) : G_read_numeral [.str (S l)] = okD (.int (NumText.digitsVal l)) := by
  refine fnRun_rt rfl ?_
  unfold B_read_numeral
  obtain ⟨s', q⟩ := dig_loop (.va (.str (S l))) l .un h
  unfold digB at q
  have e1 : bLen (.str (S l)) = some (.v (.int (l.length : Int))) := by
    show (if (S l).length ≤ line then some (R.v (.int ((S l).length : Int))) else none) = _
    rw [S_len, if_pos (show l.length ≤ line from Nat.le_trans h2 (by decide))]
  have e2 : ¬ ((l.length : Int) > 400) := by omega
  have e3 : oEq (.str (S l)) (.str "") = some (.v (.bl false)) := by
    rw [S_nil, eq_S (AD.pl h) (fun c hc => by simp at hc), decide_eq_false h1]
  refine sSeq_to (by simp [e1, e2, e3, -List.map_cons]; rfl) ?_
  refine sSeq_to (τ' := [.va (.str (S l)), s']) (by simp only [List.map_cons, List.map_nil, List.cons_append, List.nil_append, sFor_ap, srS_ap, eVar_ap, List.getD_cons_zero, srB_ok, Rd_v]; exact q) ?_
  have e4 : bIntT (.str (S l)) = some (.v (.int (NumText.digitsVal l))) := by
    show (if (S l).length ≤ 640 then (PySem.intText? (S l)).map fun n => R.v (.int n) else none) = _
    rw [if_pos (by rw [S_len]; omega), PySem.intText_digits h h1 (by rw [S_len]; omega)]
    rfl
  simp [e4]
theorem numeral_bad {l : List Nat} {c : Nat} (hp : Pl l) (hc : c ∈ l) (hn : ¬ (48 ≤ c ∧ c ≤ 57)) (h2 : l.length ≤ 400) : G_read_numeral [.str (S l)] = some (.ex "BadText") := by
  obtain ⟨τ, q⟩ := dig_bad (.va (.str (S l))) c hn l .un hc
  unfold digB at q
  have h1 : l ≠ [] := fun z => by rw [z] at hc; simp at hc
  have e1 : bLen (.str (S l)) = some (.v (.int (l.length : Int))) := by
    show (if (S l).length ≤ line then some (R.v (.int ((S l).length : Int))) else none) = _
    rw [S_len, if_pos (show l.length ≤ line from Nat.le_trans h2 (by decide))]
  have e2 : ¬ ((l.length : Int) > 400) := by omega
  have e3 : oEq (.str (S l)) (.str "") = some (.v (.bl false)) := by
    rw [S_nil, eq_S hp (fun c hc => by simp at hc), decide_eq_false h1]
  refine fnRun_ex (τ := τ) rfl ?_
  unfold B_read_numeral
  refine sSeq_to (by simp [e1, e2, e3, -List.map_cons]; rfl) ?_
  refine sSeq_ex ?_
  simp only [List.map_cons, List.map_nil, List.cons_append, List.nil_append, sFor_ap, srS_ap, eVar_ap, List.getD_cons_zero, srB_ok, Rd_v]
  exact q
end Lw
set_option Elab.async false
set_option linter.all false
set_option maxRecDepth 100000
set_option maxHeartbeats 2000000
namespace Lw
open PySem Pv
theorem S_min : ("-" : Str) = S [45] := by decide +kernel
theorem S_sl : ("/" : Str) = S [47] := by decide +kernel
theorem pl_tx (i : Int) : Pl (tx i) := fun c hc => by
  unfold tx at hc
  split at hc
  · rcases List.mem_cons.mp hc with rfl | hc
    · decide
    · exact AD.pl (dg_all _) c hc
  · exact AD.pl (dg_all _) c hc
theorem Pl.app {a b : List Nat} (ha : Pl a) (hb : Pl b) : Pl (a ++ b) := fun c hc => (List.mem_append.mp hc).elim (ha c) (hb c)
theorem Pl.cons {a : Nat} {b : List Nat} (ha : a < 128) (hb : Pl b) : Pl (a :: b) := fun c hc => (List.mem_cons.mp hc).elim (fun e => by rw [e]; exact ha) (hb c)
theorem Pl.take {a : List Nat} (n : Nat) (ha : Pl a) : Pl (a.take n) := fun c hc => ha c (List.mem_of_mem_take hc)
theorem pl_nil : Pl [] := fun c hc => by simp at hc
theorem cut1 (l : List Nat) : cutL l none (some 1) = l.take 1 := by
  cases l with
  | nil => rfl
  | cons x l =>
    unfold cutL sIx
    simp
theorem cut2 (l : List Nat) : cutL l (some 1) none = l.drop 1 := by
  cases l with
  | nil => rfl
  | cons x l =>
    unfold cutL sIx
    simp
theorem slc1 {l : List Nat} (h : l.length ≤ line) : oSlc (.str (S l)) none (some 1) = some (.v (.str (S (l.take 1)))) := by
  show (if (S l).length ≤ line then some (R.v (.str ⟨(cutL l none (some 1)).toArray⟩)) else none) = _
  rw [S_len, if_pos h, cut1]
  rfl
theorem slc2 {l : List Nat} (h : l.length ≤ line) : oSlc (.str (S l)) (some 1) none = some (.v (.str (S (l.drop 1)))) := by
  show (if (S l).length ≤ line then some (R.v (.str ⟨(cutL l (some 1) none).toArray⟩)) else none) = _
  rw [S_len, if_pos h, cut2]
  rfl
theorem part_at (c : Nat) (b : List Nat) : ∀ (a acc : List Nat), c ∉ a → part1 c acc (a ++ c :: b) = some (acc ++ a, b)
  | [], acc, _ => by
    show (if c = c then some (acc, b) else part1 c (acc ++ [c]) b) = _
    rw [if_pos rfl, List.append_nil]
  | x :: a, acc, h => by
    have hx : x ≠ c := fun e => h (by rw [e]; exact List.mem_cons_self)
    show (if x = c then some (acc, a ++ c :: b) else part1 c (acc ++ [x]) (a ++ c :: b)) = _
    rw [if_neg hx, part_at c b a (acc ++ [x]) fun q => h (List.mem_cons_of_mem _ q), List.append_assoc]
    rfl
theorem part_no (c : Nat) : ∀ (a acc : List Nat), c ∉ a → part1 c acc a = none
  | [], _, _ => rfl
  | x :: a, acc, h => by
    have hx : x ≠ c := fun e => h (by rw [e]; exact List.mem_cons_self)
    show (if x = c then some (acc, a) else part1 c (acc ++ [x]) a) = _
    rw [if_neg hx, part_no c a (acc ++ [x]) fun q => h (List.mem_cons_of_mem _ q)]
theorem no47 (n : Nat) : 47 ∉ dg n := fun h => by have := dg_all n 47 h; omega
theorem bpart_at {a b : List Nat} (h : 47 ∉ a) (hl : (a ++ 47 :: b).length ≤ line) : bPart 47 (.str (S (a ++ 47 :: b))) = some (.v (.tup [.str (S a), .str (S [47]), .str (S b)])) := by
  show (if (S (a ++ 47 :: b)).length ≤ line then some (R.v (match part1 47 [] (a ++ 47 :: b) with
    | some (a, b) => .tup [.str ⟨a.toArray⟩, .str ⟨#[47]⟩, .str ⟨b.toArray⟩]
    | none => .tup [.str (S (a ++ 47 :: b)), .str Str.empty, .str Str.empty])) else none) = _
  rw [S_len, if_pos hl, part_at 47 b a [] h]
  rfl
theorem bpart_no {a : List Nat} (h : 47 ∉ a) (hl : a.length ≤ line) : bPart 47 (.str (S a)) = some (.v (.tup [.str (S a), .str (S []), .str (S [])])) := by
  show (if (S a).length ≤ line then some (R.v (match part1 47 [] a with
    | some (a, b) => .tup [.str ⟨a.toArray⟩, .str ⟨#[47]⟩, .str ⟨b.toArray⟩]
    | none => .tup [.str (S a), .str Str.empty, .str Str.empty])) else none) = _
  rw [S_len, if_pos hl, part_no 47 a [] h]
  rfl
/-- the sign ahead -/
theorem neg_eq (i : Int) (r : List Nat) (hr : Pl r) : oEq (.str (S ((tx i ++ r).take 1))) (.str "-") = some (.v (.bl (decide (i < 0)))) := by
  rw [S_min, eq_S ((Pl.app (pl_tx i) hr).take 1) (Pl.cons (by decide) pl_nil)]
  congr 4
  unfold tx
  by_cases h : i < 0
  · rw [if_pos h]
    simp [h]
  · rw [if_neg h]
    have hne := dg_ne i.natAbs
    have had := dg_all i.natAbs
    cases e : dg i.natAbs with
    | nil => exact absurd e hne
    | cons c l =>
      rw [e] at had
      have := had.head
      simp [h]
      omega
theorem body_eq (i : Int) (r : List Nat) : (if i < 0 then (tx i ++ r).drop 1 else tx i ++ r) = dg i.natAbs ++ r := by
  unfold tx
  by_cases h : i < 0
  · rw [if_pos h, if_pos h]
    rfl
  · rw [if_neg h, if_neg h]
def Dt (i : Int) : Prop := i.natAbs < 10 ^ 400
theorem Dt.len {i : Int} (h : Dt i) : (dg i.natAbs).length ≤ 400 := dg_len (by decide) h
theorem tx_len {i : Int} (h : Dt i) : (tx i).length ≤ 401 := by
  unfold tx
  have := h.len
  split
  · rw [List.length_cons]; omega
  · omega
theorem Dt.log {i : Int} (h : Dt i) : i.natAbs.log2 < 1920 := log2_lt (Nat.lt_of_lt_of_le h (by decide +kernel)) (by decide)
theorem bStr_ok {i : Int} (h : Dt i) : bStr (.int i) = some (.v (.str (S (tx i)))) := by
  show (if i.natAbs.log2 < 1920 then some (R.v (.str (toString i : String))) else none) = _
  rw [if_pos h.log, tx_ok]
theorem fmt_ok {i : Int} (h : Dt i) : fmt1 (.int i) = some (S (tx i)) := by
  show (if i.natAbs.log2 < 1920 then some ((toString i : String) : Str) else none) = _
  rw [if_pos h.log, tx_ok]
def txn (p q : Int) : List Nat := if q = 1 then tx p else tx p ++ 47 :: tx q
theorem S_emp : Str.empty = S [] := rfl
theorem number_text_ok {p q : Int} (hp : Dt p) (hq : Dt q) : G_number_text [num p q] = okD (.str (S (txn p q))) := by
  refine fnRun_rt rfl ?_
  unfold B_number_text
  by_cases e : q = 1
  · subst e
    refine sSeq_rt ?_
    rw [num_one]
    have w : G_is_whole [.int p] = okD (.bl true) := rfl
    simp [w, bStr_ok hp, txn]
  · rw [num_tup e]
    have w : G_is_whole [.tup [.int p, .int q]] = okD (.bl false) := rfl
    refine sSeq_to (by simp [w]; rfl) ?_
    have l1 := tx_len hp
    have l2 := tx_len hq
    have hl : (line : Nat) = 16777216 := rfl
    have a1 : (S (tx p)).length ≤ line := by rw [S_len]; omega
    have a2 : (S (tx p ++ [47])).length ≤ line := by rw [S_len, List.length_append, List.length_singleton]; omega
    have a3 : (S (tx p ++ 47 :: tx q)).length ≤ line := by rw [S_len, List.length_append, List.length_cons]; omega
    have i0 : oIx (.tup [.int p, .int q]) (.int 0) = some (.v (.int p)) := rfl
    have i1 : oIx (.tup [.int p, .int q]) (.int 1) = some (.v (.int q)) := rfl
    simp only [List.map_cons, List.map_nil, List.cons_append, List.nil_append, sRet_ap, eFstr_ap, fGo_ex, fGo_txt, fGo_nil, eBin_ap, eVar_ap, eC_ap, List.getD_cons_zero, bd_ok, Rd_v, i0, i1, okR_some, fmt_ok hp, fmt_ok hq, S_emp, S_sl, S_app, a1, a2, a3, if_true, sd_ok, txn, e, if_false, List.append_assoc, List.singleton_append]
end Lw
set_option Elab.async false
set_option linter.all false
set_option maxRecDepth 100000
set_option maxHeartbeats 2000000
namespace Lw
open PySem Pv
theorem pl_txn (p q : Int) : Pl (txn p q) := by
  unfold txn
  split
  · exact pl_tx p
  · exact (pl_tx p).app (Pl.cons (by decide) (pl_tx q))
theorem sgn_val (i : Int) : (if i < 0 then -(i.natAbs : Int) else (i.natAbs : Int)) = i := by split <;> omega
section
variable {i : Int} {r : List Nat}
/-- the body behind the sign -/
theorem rn_body (hr : Pl r) (hl : (tx i ++ r).length ≤ line) : eIte (eBin oEq (eSlc (eVar 0) none (some 1)) (eC (.str "-"))) (eSlc (eVar 0) (some 1) none) (eVar 0) [.va (.str (S (tx i ++ r))), .un, .un, .un, .un, .un, .un, .un] = okD (.str (S (dg i.natAbs ++ r))) := by
  have e := neg_eq i r hr
  have b := body_eq i r
  by_cases h : i < 0
  · rw [if_pos h] at b
    rw [decide_eq_true h] at e
    simp only [eIte_ap, eBin_ap, eSlc_ap, eVar_ap, eC_ap, List.getD_cons_zero, bd_ok, Rd_v, slc1 hl, slc2 hl, okR_some, e, asB_bl, Option.elim, if_true, b]
  · rw [if_neg h] at b
    rw [decide_eq_false h] at e
    simp only [eIte_ap, eBin_ap, eSlc_ap, eVar_ap, eC_ap, List.getD_cons_zero, bd_ok, Rd_v, slc1 hl, okR_some, e, asB_bl, Option.elim]
    rw [b]
    rfl
theorem rn_sign (hr : Pl r) (hl : (tx i ++ r).length ≤ line) (a b c d f g : Sl) : eIte (eBin oEq (eSlc (eVar 0) none (some 1)) (eC (.str "-"))) (eUn uNeg (eVar 5)) (eVar 5) [.va (.str (S (tx i ++ r))), a, b, c, d, .va (.int (i.natAbs : Int)), f, g] = okD (.int i) := by
  have e := neg_eq i r hr
  have z := sgn_val i
  by_cases h : i < 0
  · rw [if_pos h] at z
    rw [decide_eq_true h] at e
    simp only [eIte_ap, eBin_ap, eUn_ap, eSlc_ap, eVar_ap, eC_ap, List.getD_cons_zero, List.getD_cons_succ, bd_ok, Rd_v, slc1 hl, okR_some, e, asB_bl, Option.elim, if_true, uNeg_int, z]
  · rw [if_neg h] at z
    rw [decide_eq_false h] at e
    simp only [eIte_ap, eBin_ap, eSlc_ap, eVar_ap, eC_ap, List.getD_cons_zero, List.getD_cons_succ, bd_ok, Rd_v, slc1 hl, okR_some, e, asB_bl, Option.elim, z]
    rfl
end
theorem tg3_ap (i j k : Nat) (a b c : D) (τ : Ev) : tg3 i j k (.tup [a, b, c]) τ = some (((τ.set i (.va a)).set j (.va b)).set k (.va c)) := rfl
theorem no_sl : oEq (.str (S [])) (.str "/") = some (.v (.bl false)) := by
  rw [S_sl, eq_S pl_nil (Pl.cons (by decide) pl_nil)]
  rfl
theorem is_sl : oEq (.str (S [47])) (.str "/") = some (.v (.bl true)) := by
  rw [S_sl, eq_S (Pl.cons (by decide) pl_nil) (Pl.cons (by decide) pl_nil)]
  rfl
theorem tx_pos {q : Int} (h : 0 ≤ q) : tx q = dg q.natAbs := by
  unfold tx
  rw [if_neg (by omega)]
theorem read_ok {p q : Int} (h1 : 1 ≤ q) (hg : Int.gcd p q = 1) (hp : Dt p) (hq : Dt q) : G_read_number [.str (S (txn p q))] = okD (num p q) := by
  have hll : (line : Nat) = 16777216 := rfl
  have l1 := tx_len hp
  have l2 := tx_len hq
  have d1 := hp.len
  have d2 := hq.len
  have hqb : q.natAbs < 2 ^ 4000 := Nat.lt_of_lt_of_le hq (by decide +kernel)
  obtain ⟨p', q', a1, a2, a3, _, _, a6⟩ := ratio_ok (t := p) (b := q) (by omega) hqb
  obtain ⟨rfl, rfl⟩ := form_eq (t := p) (b := q) (by omega) a1 a2 a3 h1 hg rfl
  have nt := number_text_ok hp hq
  have ne : oNe (.str (S (txn p' q'))) (.str (S (txn p' q'))) = some (.v (.bl false)) := by
    rw [ne_S (pl_txn _ _) (pl_txn _ _), decide_eq_true rfl]
    rfl
  have nz : ¬ q' = 0 := by omega
  have nm1 := numeral_ok (dg_all p'.natAbs) (dg_ne _) d1
  rw [dg_val] at nm1
  refine fnRun_rt rfl ?_
  unfold B_read_number
  by_cases e : q' = 1
  · subst e
    have ex : txn p' 1 = tx p' := by unfold txn; rw [if_pos rfl]
    rw [ex] at nt ne ⊢
    have hl : (tx p' ++ []).length ≤ line := by rw [List.append_nil]; omega
    have bd := rn_body (i := p') (r := []) pl_nil hl
    have sn := rn_sign (i := p') (r := []) pl_nil hl
    have bp := bpart_no (no47 p'.natAbs) (show (dg p'.natAbs).length ≤ line by omega)
    simp only [List.append_nil] at bd sn
    refine sSeq_to (by simp only [List.map_cons, List.map_nil, List.cons_append, List.nil_append, sAsg_ap]; rw [show List.replicate (8 - 1) Sl.un = [.un, .un, .un, .un, .un, .un, .un] from rfl, bd]; rfl) ?_
    refine sSeq_to rfl ?_
    refine sSeq_to (τ' := [.va (.str (S (tx p'))), .va (.str (S (dg p'.natAbs))), .va (.str (S (dg p'.natAbs))), .va (.str (S [])), .va (.str (S [])), .un, .un, .un]) (by simp [bp, tg3_ap]) ?_
    refine sSeq_to (by simp [nm1]; rfl) ?_
    refine sSeq_to (by simp; rfl) ?_
    refine sSeq_to (by simp [no_sl]; rfl) ?_
    refine sSeq_to (by simp; rfl) ?_
    refine sSeq_to (by simp; rfl) ?_
    refine sSeq_to (τ' := [.va (.str (S (tx p'))), .va (.str (S (dg p'.natAbs))), .va (.str (S (dg p'.natAbs))), .va (.str (S [])), .va (.str (S [])), .va (.int p'.natAbs), .va (.int 1), .va (num p' 1)]) (by simp only [sAsg_ap, eCall_ap, eArgs_cons, eArgs_nil, sn]; simp [a6]) ?_
    refine sSeq_to (by simp; rfl) ?_
    refine sSeq_to (by simp only [sIf_ap, eBin_ap, eCall_ap, eArgs_cons, eArgs_nil, eVar_ap, List.getD_cons_zero, List.getD_cons_succ, Rd_v, consR_ok, ab_ok, nt, bd_ok, ne, okR_some, sd_ok, asB_bl, Option.elim, sNx_ap]; rfl) ?_
    rfl
  · have ex : txn p' q' = tx p' ++ 47 :: dg q'.natAbs := by unfold txn; rw [if_neg e, tx_pos (q := q') (by omega)]
    have pr : Pl (47 :: dg q'.natAbs) := Pl.cons (by decide) (AD.pl (dg_all _))
    rw [ex] at nt ne ⊢
    have hl : (tx p' ++ 47 :: dg q'.natAbs).length ≤ line := by rw [List.length_append, List.length_cons]; omega
    have bd := rn_body (i := p') pr hl
    have sn := rn_sign (i := p') pr hl
    have bp := bpart_at (b := dg q'.natAbs) (no47 p'.natAbs) (by rw [List.length_append, List.length_cons]; omega)
    have nm2 := numeral_ok (dg_all q'.natAbs) (dg_ne _) d2
    rw [dg_val, show ((q'.natAbs : Nat) : Int) = q' by omega] at nm2
    refine sSeq_to (by simp only [List.map_cons, List.map_nil, List.cons_append, List.nil_append, sAsg_ap]; rw [show List.replicate (8 - 1) Sl.un = [.un, .un, .un, .un, .un, .un, .un] from rfl, bd]; rfl) ?_
    refine sSeq_to rfl ?_
    refine sSeq_to (τ' := [.va (.str (S (tx p' ++ 47 :: dg q'.natAbs))), .va (.str (S (dg p'.natAbs ++ 47 :: dg q'.natAbs))), .va (.str (S (dg p'.natAbs))), .va (.str (S [47])), .va (.str (S (dg q'.natAbs))), .un, .un, .un]) (by simp [bp, tg3_ap]) ?_
    refine sSeq_to (by simp [nm1]; rfl) ?_
    refine sSeq_to (by simp; rfl) ?_
    refine sSeq_to (by simp [is_sl, nm2]; rfl) ?_
    refine sSeq_to (by simp; rfl) ?_
    refine sSeq_to (by simp [nz]; rfl) ?_
    refine sSeq_to (τ' := [.va (.str (S (tx p' ++ 47 :: dg q'.natAbs))), .va (.str (S (dg p'.natAbs ++ 47 :: dg q'.natAbs))), .va (.str (S (dg p'.natAbs))), .va (.str (S [47])), .va (.str (S (dg q'.natAbs))), .va (.int p'.natAbs), .va (.int q'), .va (num p' q')]) (by simp only [sAsg_ap, eCall_ap, eArgs_cons, eArgs_nil, sn]; simp [a6]) ?_
    refine sSeq_to (by simp; rfl) ?_
    refine sSeq_to (by simp only [sIf_ap, eBin_ap, eCall_ap, eArgs_cons, eArgs_nil, eVar_ap, List.getD_cons_zero, List.getD_cons_succ, Rd_v, consR_ok, ab_ok, nt, bd_ok, ne, okR_some, sd_ok, asB_bl, Option.elim, sNx_ap]; rfl) ?_
    rfl
theorem read_bad {p : Int} {r : List Nat} {c : Nat} (hp : Dt p) (hr : Pl r) (hc : c ∈ r) (hn : ¬ (48 ≤ c ∧ c ≤ 57)) (h2 : r.length ≤ 400) : G_read_number [.str (S (tx p ++ 47 :: r))] = some (.ex "BadText") := by
  have hll : (line : Nat) = 16777216 := rfl
  have l1 := tx_len hp
  have d1 := hp.len
  have pr : Pl (47 :: r) := Pl.cons (by decide) hr
  have hl : (tx p ++ 47 :: r).length ≤ line := by rw [List.length_append, List.length_cons]; omega
  have bd := rn_body (i := p) pr hl
  have bp := bpart_at (b := r) (no47 p.natAbs) (by rw [List.length_append, List.length_cons]; omega)
  have nm1 := numeral_ok (dg_all p.natAbs) (dg_ne _) d1
  have nm2 := numeral_bad hr hc hn h2
  refine fnRun_ex (τ := [.va (.str (S (tx p ++ 47 :: r))), .va (.str (S (dg p.natAbs ++ 47 :: r))), .va (.str (S (dg p.natAbs))), .va (.str (S [47])), .va (.str (S r)), .va (.int (NumText.digitsVal (dg p.natAbs))), .un, .un]) rfl ?_
  unfold B_read_number
  refine sSeq_to (by simp only [List.map_cons, List.map_nil, List.cons_append, List.nil_append, sAsg_ap]; rw [show List.replicate (8 - 1) Sl.un = [.un, .un, .un, .un, .un, .un, .un] from rfl, bd]; rfl) ?_
  refine sSeq_to rfl ?_
  refine sSeq_to (τ' := [.va (.str (S (tx p ++ 47 :: r))), .va (.str (S (dg p.natAbs ++ 47 :: r))), .va (.str (S (dg p.natAbs))), .va (.str (S [47])), .va (.str (S r)), .un, .un, .un]) (by simp [bp, tg3_ap]) ?_
  refine sSeq_to (by simp [nm1]; rfl) ?_
  refine sSeq_to (by simp; rfl) ?_
  refine sSeq_ex ?_
  simp [is_sl, nm2]
end Lw
set_option Elab.async false
set_option linter.all false
set_option maxRecDepth 100000
set_option maxHeartbeats 2000000
namespace Lw
open PySem Pv
theorem add_S {a b : List Nat} (h : a.length + b.length ≤ line) : oAdd (.str (S a)) (.str (S b)) = some (.v (.str (S (a ++ b)))) := by
  show (if (S a).length + (S b).length ≤ line then some (R.v (.str (S a ++ S b))) else none) = _
  rw [S_len, S_len, if_pos h, S_app]
theorem isT_str (x : Str) : bIs .str (.str x) = some (.v (.bl true)) := rfl
theorem texts_ok {p q : Int} (h1 : 1 ≤ q) (hg : Int.gcd p q = 1) (hp : Dt p) (hq : Dt q) (hs : q.natAbs < 2 ^ 900) : G_UlawUtexts [num p q] = okD (.bl true) := by
  have hll : (line : Nat) = 16777216 := rfl
  have l1 := tx_len hp
  have l2 := tx_len hq
  have nt := number_text_ok hp hq
  have rd := read_ok h1 hg hp hq
  have ne : oNe (.str (S (txn p q))) (.str (S (txn p q))) = some (.v (.bl false)) := by
    rw [ne_S (pl_txn _ _) (pl_txn _ _), decide_eq_true rfl]
    rfl
  have eq : oEq (num p q) (num p q) = some (.v (.bl true)) := eq_nd (p, q)
  have due : ∀ τ : Ev, τ = [.va (num p q), .va (.str (S (tx p))), .un, .un] → sIf (eBin oNe (eCall G_UlawUbottom [eVar 0]) (eC (.int 1))) (sSeq (sAsg 1 (eBin oAdd (eBin oAdd (eVar 1) (eC (.str "/"))) (eB1 bStr (eCall G_UlawUbottom [eVar 0])))) (sSeq (sFrz 1) (sNx))) (sNx) τ = some (.nx [.va (num p q), .va (.str (S (txn p q))), .un, .un]) := fun τ hτ => by
    subst hτ
    by_cases e : q = 1
    · simp [lbottom_num, eq_true e, txn]
    · have ad1 := add_S (a := tx p) (b := [47]) (by rw [List.length_singleton]; omega)
      have ad2 := add_S (a := tx p ++ [47]) (b := tx q) (by rw [List.length_append, List.length_singleton]; omega)
      rw [← S_sl] at ad1
      rw [List.append_assoc] at ad2
      simp [lbottom_num, e, txn, ad1, ad2, bStr_ok hq]
  refine fnRun_rt rfl ?_
  unfold B_UlawUtexts
  refine sSeq_to (by simp [ltop_num, bStr_ok hp]; rfl) ?_
  refine sSeq_to (due _ rfl) ?_
  refine sSeq_to (by simp [nt]; rfl) ?_
  refine sSeq_to (by simp; rfl) ?_
  refine sSeq_to (by simp [isT_str, ne]; rfl) ?_
  refine sSeq_to (by simp [rd]; rfl) ?_
  refine sSeq_to (by simp; rfl) ?_
  simp [is_number_num h1 hg hs, eq]
theorem no_text_ok {x : D} (h : G_read_number [x] = some (.ex "BadText")) : G_UlawUnoUtext [x] = okD (.bl true) := by
  refine fnRun_rt rfl ?_
  unfold B_UlawUnoUtext
  refine sSeq_rt ?_
  refine tryS_hit (c := "BadText") (τ' := [.va x, .un]) (by simp [h]) rfl fun a => ?_
  rw [pick_hd]
  unfold Q0_UlawUnoUtext
  simp [wipeFl]
theorem no_ratio_ok (t : Int) : G_UlawUnoUratio [.int t] = okD (.bl true) := by
  refine fnRun_rt rfl ?_
  unfold B_UlawUnoUratio
  refine sSeq_rt ?_
  refine tryS_hit (c := "ZeroBottom") (τ' := [.va (.int t), .un]) (by simp [ratio_zero]) rfl fun a => ?_
  rw [pick_hd]
  unfold Q0_UlawUnoUratio
  simp [wipeFl]
theorem no_quotient_ok (p q : Int) : G_UlawUnoUquotient [num p q] = okD (.bl true) := by
  refine fnRun_rt rfl ?_
  unfold B_UlawUnoUquotient
  refine sSeq_rt ?_
  refine tryS_hit (c := "ZeroBottom") (τ' := [.va (num p q), .un]) (by simp [over_zero]) rfl fun a => ?_
  rw [pick_hd]
  unfold Q0_UlawUnoUquotient
  simp [wipeFl]
def bls (l : List Bool) : List D := l.map .bl
theorem alone_sfx {p q : Int} (hp : Dt p) (hq1 : q.natAbs < 10 ^ 100) (h1 : 1 ≤ q) : ∃ x, eBin oAdd (eCall G_number_text [eVar 1]) (eC (.str "/7/9")) = x ∧ ∀ τ : Ev, τ.getD 1 .un = .va (num p q) → ∃ y, x τ = okD (.str y) ∧ G_read_number [.str y] = some (.ex "BadText") := by
  have hq : Dt q := Nat.lt_of_lt_of_le hq1 (by decide +kernel)
  have d3 : (dg q.natAbs).length ≤ 100 := dg_len (by decide) hq1
  refine ⟨_, rfl, fun τ hτ => ?_⟩
  have hll : (line : Nat) = 16777216 := rfl
  have l1 := tx_len hp
  have l2 := tx_len hq
  have d2 := hq.len
  have nt := number_text_ok hp hq
  have e79 : ("/7/9" : Str) = S [47, 55, 47, 57] := by decide +kernel
  have lt : (txn p q).length ≤ 803 := by
    unfold txn
    split
    · omega
    · rw [List.length_append, List.length_cons]; omega
  have ad := add_S (a := txn p q) (b := [47, 55, 47, 57]) (by
    show (txn p q).length + 4 ≤ line
    omega)
  refine ⟨S (txn p q ++ [47, 55, 47, 57]), ?_, ?_⟩
  · simp only [eBin_ap, eCall_ap, eArgs_cons, eArgs_nil, eVar_ap, hτ, Rd_v, consR_ok, ab_ok, nt, bd_ok, eC_ap, e79, ad, okR_some]
  · by_cases e : q = 1
    · have ex : txn p q ++ [47, 55, 47, 57] = tx p ++ 47 :: [55, 47, 57] := by unfold txn; rw [if_pos e]
      rw [ex]
      exact read_bad (c := 47) hp (by intro c hc; simp at hc; omega) (by simp) (by decide) (by decide)
    · have ex : txn p q ++ [47, 55, 47, 57] = tx p ++ 47 :: (dg q.natAbs ++ [47, 55, 47, 57]) := by
        unfold txn
        rw [if_neg e, tx_pos (q := q) (by omega), List.append_assoc]
        rfl
      rw [ex]
      refine read_bad (c := 47) hp ((AD.pl (dg_all _)).app (by intro c hc; simp at hc; omega)) (by simp) (by decide) ?_
      rw [List.length_append]
      show (dg q.natAbs).length + 4 ≤ 400
      omega
theorem suite0 (d x : D) (a : Nat) : wipeFl 2 (Q0_UlawUalone a [.va d, .va x, .va (.adr a), .un, .un]) = some (.rt (.own [.int 18])) := by
  have hs : Q0_UlawUalone a [.va d, .va x, .va (.adr a), .un, .un] = some (.rt (.own [.int 18])) := by
    unfold Q0_UlawUalone
    refine sSeq_to (by simp [line]; rfl) ?_
    iterate 11
      refine sSeq_to (by simp; rfl) ?_
      refine sSeq_to (by simp [oAdd, line]; rfl) ?_
    refine sSeq_to (by simp; rfl) ?_
    rfl
  rw [hs]
  rfl
theorem suite1 (d x : D) (a : Nat) : wipeFl 2 (Q1_UlawUalone a [.va d, .va x, .va (.adr a), .un, .un]) = some (.rt (.own [.int 12])) := by
  have hs : Q1_UlawUalone a [.va d, .va x, .va (.adr a), .un, .un] = some (.rt (.own [.int 12])) := by
    unfold Q1_UlawUalone
    refine sSeq_to (by simp [line]; rfl) ?_
    iterate 11
      refine sSeq_to (by simp; rfl) ?_
      refine sSeq_to (by simp [oAdd, line]; rfl) ?_
    refine sSeq_to (by simp; rfl) ?_
    rfl
  rw [hs]
  rfl
theorem alone_0 (p q : Int) : G_UlawUalone [.int 0, num p q] = some (.ok (.own [.int 12])) := by
  refine fnRun_rt rfl ?_
  unfold B_UlawUalone
  refine sSeq_rt ?_
  refine tryS_hit (c := "ZeroBottom") (τ' := [.va (.int 0), .va (num p q), .un, .un, .un]) (sSeq_ex (by simp [ltop_num, ratio_zero])) rfl fun a => ?_
  rw [pick_tl (by decide), pick_hd]
  exact suite1 _ _ a
theorem alone_1 (p q : Int) : G_UlawUalone [.int 1, num p q] = some (.ok (.own [.int 12])) := by
  refine fnRun_rt rfl ?_
  unfold B_UlawUalone
  refine sSeq_rt ?_
  refine tryS_hit (c := "ZeroBottom") (τ' := [.va (.int 1), .va (num p q), .un, .un, .un]) (sSeq_to (by simp; rfl) (sSeq_ex (by simp [over_zero]))) rfl fun a => ?_
  rw [pick_tl (by decide), pick_hd]
  exact suite1 _ _ a
theorem alone_2 {p q : Int} (hp : Dt p) (hq1 : q.natAbs < 10 ^ 100) (h1 : 1 ≤ q) : G_UlawUalone [.int 2, num p q] = some (.ok (.own [.int 18])) := by
  obtain ⟨x, ex, hx⟩ := alone_sfx hp hq1 h1
  refine fnRun_rt rfl ?_
  unfold B_UlawUalone
  rw [ex]
  refine sSeq_rt ?_
  obtain ⟨y, e1, e2⟩ := hx [.va (.int 2), .va (num p q), .un, .un, .un] rfl
  refine tryS_hit (c := "BadText") (τ' := [.va (.int 2), .va (num p q), .un, .un, .un]) (sSeq_to (by simp; rfl) (sSeq_to (by simp; rfl) (by simp [e1, e2]))) rfl fun a => ?_
  rw [pick_hd]
  exact suite0 _ _ a
end Lw
set_option Elab.async false
set_option linter.all false
set_option maxRecDepth 100000
set_option maxHeartbeats 2000000
namespace Lw
open PySem Pv
def ii (xs : List Int) : List D := xs.map .int
def Rg (xs : List Int) : Prop := ∀ x ∈ xs, 0 ≤ x ∧ x < 10007
theorem Rg.app {a b : List Int} (h : Rg a) (k : Rg b) : Rg (a ++ b) := fun x hx => (List.mem_append.mp hx).elim (h x) (k x)
theorem cell_ok (ns : List Int) (k : Nat) : ∃ c : Int, G_UlawUcell [.scr ns, .int k] = okD (.int c) := by
  by_cases h : k < ns.length
  · refine ⟨ns[k], fnRun_rt rfl ?_⟩
    unfold B_UlawUcell
    refine sSeq_rt ?_
    have h' : (k : Int) < (ns.length : Int) := by omega
    have e : oIx (.scr ns) (.int k) = some (.v (.int ns[k])) := by
      show ((atI ns.length k).bind fun j => (ns[j]?).map fun n => R.v (.int n)) = _
      unfold atI
      rw [if_pos (by omega), if_pos h']
      show ((ns[(k : Int).toNat]?).map fun n => R.v (.int n)) = _
      rw [Int.toNat_natCast, List.getElem?_eq_getElem h]
      rfl
    simp [bLen, h, e]
  · refine ⟨0, fnRun_rt rfl ?_⟩
    unfold B_UlawUcell
    have h' : ¬ (k : Int) < (ns.length : Int) := by omega
    refine sSeq_to (by simp [bLen, h]; rfl) ?_
    simp
def n1B : StF := sSeq (sApp 4 (eBin oMod (eB1 bInt (eVar 3)) (eC (.int 10007)))) (sAsg 3 (eBin oDiv (eVar 3) (eC (.int 10007))))
def n2B : StF := sSeq (sAsg 6 (eBin oMod (eB1 bInt (eBin oAdd (eBin oAdd (eBin oMulV (eVar 3) (eC (.int 48271))) (eBin oMulV (eC (.int 69621)) (eVar 5))) (eC (.int 11)))) (eC (.int 2147483647)))) (sApp 4 (eBin oMod (eB1 bInt (eBin oAdd (eBin oMulV (eBin oDiv (eVar 6) (eC (.int 16))) (eC (.int 7919))) (eVar 5))) (eC (.int 10007))))
theorem fm (x : Int) : 0 ≤ x.fmod 10007 ∧ x.fmod 10007 < 10007 := ⟨Int.fmod_nonneg_of_pos x (by decide), Int.fmod_lt_of_pos x (by decide)⟩
theorem n1_loop (a b c s6 : Sl) : ∀ (n : Nat) (lo cell : Int) (xs : List Int) (s5 : Sl), xs.length + n ≤ 1000 → Rg xs → ∃ (cell' : Int) (ys : List Int) (s5' : Sl), loop (tgN 5) n1B (intsD n lo) [a, b, c, .va (.int cell), .ow false (ii xs), s5, s6] = some (.nx [a, b, c, .va (.int cell'), .ow false (ii ys), s5', s6]) ∧ ys.length = xs.length + n ∧ Rg ys
  | 0, lo, cell, xs, s5, _, h => ⟨cell, xs, s5, rfl, rfl, h⟩
  | n + 1, lo, cell, xs, s5, hl, h => by
    obtain ⟨cell', ys, s5', q, e1, e2⟩ := n1_loop a b c s6 n (lo + 1) (cell.fdiv 10007) (xs ++ [cell.fmod 10007]) (.va (.int lo)) (by simp; omega) (h.app fun x hx => by simp at hx; rw [hx]; exact fm cell)
    refine ⟨cell', ys, s5', ?_, by rw [e1]; simp; omega, e2⟩
    rw [show intsD (n + 1) lo = .int lo :: intsD n (lo + 1) from rfl, loop_cons, ← q]
    have hx : xs.length < line := by show xs.length < 16777216; omega
    have hb : n1B [a, b, c, .va (.int cell), .ow false (ii xs), .va (.int lo), s6] = some (.nx [a, b, c, .va (.int (cell.fdiv 10007)), .ow false (ii (xs ++ [cell.fmod 10007])), .va (.int lo), s6]) := by
      unfold n1B
      have d : divOk 10007 = true := by decide
      have e : ii xs ++ [.int (cell.fmod 10007)] = ii (xs ++ [cell.fmod 10007]) := by unfold ii; rw [List.map_append]; rfl
      have hl : (ii xs).length < line := by unfold ii; rw [List.length_map]; exact hx
      refine sSeq_to (by simp [oMod_int, hl, e]; rfl) ?_
      simp [oDiv_int, d]
    simp only [tgN_ap, List.set_cons_succ, List.set_cons_zero, hb]
theorem n2_loop (a b c : Sl) (cell : Int) (hc : cell.natAbs < 2 ^ 100) : ∀ (n : Nat) (lo : Nat) (xs : List Int) (s5 s6 : Sl), xs.length + n ≤ 1000 → lo + n ≤ 1000 → Rg xs → ∃ (ys : List Int) (s5' s6' : Sl), loop (tgN 5) n2B (intsD n lo) [a, b, c, .va (.int cell), .ow false (ii xs), s5, s6] = some (.nx [a, b, c, .va (.int cell), .ow false (ii ys), s5', s6']) ∧ ys.length = xs.length + n ∧ Rg ys
  | 0, lo, xs, s5, s6, _, _, h => ⟨xs, s5, s6, rfl, rfl, h⟩
  | n + 1, lo, xs, s5, s6, hl, hn, h => by
    generalize hm : (cell * 48271 + 69621 * (lo : Int) + 11).fmod 2147483647 = mixed
    obtain ⟨ys, s5', s6', q, e1, e2⟩ := n2_loop a b c cell hc n (lo + 1) (xs ++ [(mixed.fdiv 16 * 7919 + lo).fmod 10007]) (.va (.int lo)) (.va (.int mixed)) (by simp; omega) (by omega) (h.app fun x hx => by simp at hx; rw [hx]; exact fm _)
    refine ⟨ys, s5', s6', ?_, by rw [e1]; simp; omega, e2⟩
    rw [show intsD (n + 1) (lo : Int) = .int lo :: intsD n ((lo + 1 : Nat) : Int) from rfl, loop_cons, ← q]
    have hx : xs.length < line := by show xs.length < 16777216; omega
    have hl : (ii xs).length < line := by unfold ii; rw [List.length_map]; exact hx
    have m1 : mulOk cell 48271 = true := mulOk_of (p2 (k := 0) hc (by decide)) (by decide)
    have lob : (lo : Int).natAbs < 2 ^ 4000 := by
      have : (lo : Int).natAbs < 2 ^ 10 := by omega
      exact p2 (k := 0) this (by decide)
    have m2 : mulOk 69621 (lo : Int) = true := mulOk_of (by decide) lob
    have mb : mixed.natAbs < 2 ^ 31 := by
      have h0 : 0 ≤ mixed := by rw [← hm]; exact Int.fmod_nonneg_of_pos _ (by decide)
      have h1 : mixed < 2147483647 := by rw [← hm]; exact Int.fmod_lt_of_pos _ (by decide)
      omega
    have m3 : mulOk (mixed.fdiv 16) 7919 = true := by
      obtain ⟨d, r, e1, _, _, _, n1⟩ := fd_key (a := mixed) (b := 16) (by decide)
      rw [e1]
      exact mulOk_of (p2 (k := 0) (Nat.lt_of_le_of_lt n1 mb) (by decide)) (by decide)
    have d : divOk 16 = true := by decide
    have e : ii xs ++ [.int ((mixed.fdiv 16 * 7919 + lo).fmod 10007)] = ii (xs ++ [(mixed.fdiv 16 * 7919 + lo).fmod 10007]) := by unfold ii; rw [List.map_append]; rfl
    have hb : n2B [a, b, c, .va (.int cell), .ow false (ii xs), .va (.int lo), s6] = some (.nx [a, b, c, .va (.int cell), .ow false (ii (xs ++ [(mixed.fdiv 16 * 7919 + lo).fmod 10007])), .va (.int lo), .va (.int mixed)]) := by
      unfold n2B
      refine sSeq_to (by simp [oMod_int, oMulV_int, m1, m2, hm]; rfl) ?_
      simp [oMod_int, oMulV_int, oDiv_int, d, m3, hl, e]
    simp only [tgN_ap, List.set_cons_succ, List.set_cons_zero, hb]
theorem pow18 : oPow (.int 10) (.int 18) = some (.v (.int 1000000000000000000)) := by
  have e : (10 : Int) ^ (18 : Int).toNat = 1000000000000000000 := by decide +kernel
  show (if (0 : Int) ≤ 18 ∧ (18 : Int) ≤ 1000000 ∧ (10 : Int).natAbs < 2 ^ 64 then some (R.v (.int ((10 : Int) ^ (18 : Int).toNat))) else none) = _
  rw [if_pos (by decide), e]
theorem numbers_ok (ns : List Int) (k many : Nat) (m : Int) (hm : many ≤ 100) (hmm : m.toNat = many) (rg : rgOk m = true) : ∃ xs : List Int, G_UlawUnumbers [.scr ns, .int k, .int m] = some (.ok (.own (ii xs))) ∧ xs.length = many ∧ Rg xs := by
  obtain ⟨c, hc⟩ := cell_ok ns k
  generalize hcc : (if c < 0 then -c else c) = cell
  have h0 : 0 ≤ cell := by rw [← hcc]; split <;> omega
  have pw := pow18
  generalize hB : (1000000000000000000 : Int) = B at pw
  have hB2 : B < 2 ^ 100 := by rw [← hB]; decide
  by_cases hb : B ≤ cell
  · obtain ⟨cell', ys, s5', q, e1, e2⟩ := n1_loop (.va (.scr ns)) (.va (.int k)) (.va (.int m)) .un many 0 cell [] .un (by simp; omega) (fun x hx => by simp at hx)
    refine ⟨ys, ?_, by rw [e1]; simp, e2⟩
    refine fnRun_rt rfl ?_
    unfold B_UlawUnumbers
    unfold n1B at q
    refine sSeq_to (by simp [hc, hcc]; rfl) ?_
    refine sSeq_to (by simp [line]; rfl) ?_
    refine sSeq_rt ?_
    have q' := q
    rw [show ii ([] : List Int) = [] from rfl] at q'
    simp [pw, hb, rg, hmm, q', -sSeq_ap]
    refine sSeq_to (τ' := [.va (.scr ns), .va (.int k), .va (.int m), .va (.int cell'), .ow false (ii ys), s5', .un]) (by simp [rg, hmm, -sSeq_ap]; exact q') ?_
    simp
  · obtain ⟨ys, s5', s6', q, e1, e2⟩ := n2_loop (.va (.scr ns)) (.va (.int k)) (.va (.int m)) cell (by omega) many 0 [] .un .un (by simp; omega) (by omega) (fun x hx => by simp at hx)
    refine ⟨ys, ?_, by rw [e1]; simp, e2⟩
    refine fnRun_rt rfl ?_
    unfold B_UlawUnumbers
    unfold n2B at q
    have q' := q
    rw [show ii ([] : List Int) = [] from rfl] at q'
    refine sSeq_to (by simp [hc, hcc]; rfl) ?_
    refine sSeq_to (by simp [line]; rfl) ?_
    refine sSeq_to (by simp [pw, hb, -sSeq_ap]; rfl) ?_
    refine sSeq_to (τ' := [.va (.scr ns), .va (.int k), .va (.int m), .va (.int cell), .ow false (ii ys), s5', s6']) (by simp [rg, hmm, -sSeq_ap]; exact q') ?_
    simp
end Lw
set_option Elab.async false
set_option linter.all false
set_option maxRecDepth 100000
set_option maxHeartbeats 2000000
namespace Lw
open PySem Pv
theorem ix_ii {xs : List Int} {k : Nat} (h : k < xs.length) : oIx (.lst (ii xs)) (.int k) = some (.v (.int xs[k])) := by
  show ((atI (ii xs).length k).bind fun j => ((ii xs)[j]?).map R.v) = _
  have hl : (ii xs).length = xs.length := by unfold ii; rw [List.length_map]
  unfold atI
  rw [if_pos (by omega), hl, if_pos (by omega)]
  show (((ii xs)[(k : Int).toNat]?).map R.v) = _
  rw [Int.toNat_natCast]
  unfold ii
  rw [List.getElem?_map, List.getElem?_eq_getElem h]
  rfl
theorem drawn_ok {xs : List Int} {k : Nat} (h : k + 1 < xs.length) (hr : Rg xs) (large : Bool) : ∃ r : Pr, Ok r ∧ G_UlawUdrawn [.lst (ii xs), .int k, .bl large] = okD (nd r) := by
  have i1 := ix_ii (xs := xs) (k := k) (by omega)
  have i2 := ix_ii h
  have r1 := hr xs[k] (List.getElem_mem _)
  have r2 := hr xs[k + 1] (List.getElem_mem _)
  rw [show ((k + 1 : Nat) : Int) = (k : Int) + 1 by omega] at i2
  generalize xs[k] = x at *
  generalize xs[k + 1] = y at *
  have b0 : 0 ≤ y.fmod 60 := Int.fmod_nonneg_of_pos y (by decide)
  have b1 : y.fmod 60 < 60 := Int.fmod_lt_of_pos y (by decide)
  generalize hb : 1 + y.fmod 60 = b
  have pw : oPow (.int 10) (.int 9) = some (.v (.int 1000000000)) := by
    have e : (10 : Int) ^ (9 : Int).toNat = 1000000000 := by decide +kernel
    show (if (0 : Int) ≤ 9 ∧ (9 : Int) ≤ 1000000 ∧ (10 : Int).natAbs < 2 ^ 64 then some (R.v (.int ((10 : Int) ^ (9 : Int).toNat))) else none) = _
    rw [if_pos (by decide), e]
  have go : ∀ t : Int, t.natAbs < 2 ^ 100 → ∃ r : Pr, Ok r ∧ G_UlawUmake [.int t, .int b] = okD (nd r) := fun t ht => by
    obtain ⟨p, q, a1, a2, a3, a4, a5, a6⟩ := make_ok (t := t) (b := b) (by omega) (p2 (k := 0) (n := 6) (by omega) (by decide))
    exact ⟨(p, q), ⟨a1, Nat.lt_of_le_of_lt a5 (by omega), p2 (k := 0) (Nat.lt_of_le_of_lt a4 ht) (by decide), a2⟩, a6⟩
  have m1 : mulOk (x - 5003) 1000000007 = true := mulOk_of (p2 (k := 0) (n := 20) (by omega) (by decide)) (by decide)
  cases large with
  | false =>
    obtain ⟨r, o, e⟩ := go (x - 5003) (p2 (k := 0) (n := 20) (by omega) (by decide))
    refine ⟨r, o, fnRun_rt rfl ?_⟩
    unfold B_UlawUdrawn
    refine sSeq_to (by simp [i1]; rfl) ?_
    refine sSeq_to (by simp; rfl) ?_
    simp [i2, oMod_int, hb, e]
  | true =>
    obtain ⟨r, o, e⟩ := go ((x - 5003) * 1000000007) (p2 (k := 0) (pm (n := 20) (m := 40) (by omega) (by decide)) (by decide))
    refine ⟨r, o, fnRun_rt rfl ?_⟩
    unfold B_UlawUdrawn
    refine sSeq_to (by simp [i1]; rfl) ?_
    refine sSeq_to (by simp [pw, oMulV_int, m1]; rfl) ?_
    simp [i2, oMod_int, hb, e]
/-- the row of the law -/
theorem row_comp {xs : List Int} (hr : Rg xs) (large : Bool) : ∀ (n lo : Nat) (τ : Ev), τ.getD 7 .un = .va (.lst (ii xs)) → τ.getD 2 .un = .va (.bl large) → τ.length = 14 → 2 * (lo + n) ≤ xs.length → xs.length ≤ 100 →
    ∃ rs : List Pr, (∀ r ∈ rs, Ok r) ∧ rs.length = n ∧ compGo (tgN 12) yes (eCall G_UlawUdrawn [eVar 7, eBin oMulV (eC (.int 2)) (eVar 12), eVar 2]) τ (intsD n lo) = some (rs.map nd)
  | 0, lo, τ, _, _, _, _, _ => ⟨[], fun r h => by simp at h, rfl, rfl⟩
  | n + 1, lo, τ, h7, h2, hl, hx, h100 => by
    obtain ⟨rs, o, e, g⟩ := row_comp hr large n (lo + 1) τ h7 h2 hl (by omega) h100
    obtain ⟨r, ro, rg⟩ := drawn_ok (xs := xs) (k := 2 * lo) (by omega) hr large
    refine ⟨r :: rs, fun x hx => (List.mem_cons.mp hx).elim (fun z => by rw [z]; exact ro) (o x), by rw [List.length_cons, e], ?_⟩
    have g7 : (τ.set 12 (.va (.int lo))).getD 7 .un = .va (.lst (ii xs)) := by rw [List.getD_eq_getElem?_getD, List.getElem?_set_ne (by decide), ← List.getD_eq_getElem?_getD, h7]
    have g2 : (τ.set 12 (.va (.int lo))).getD 2 .un = .va (.bl large) := by rw [List.getD_eq_getElem?_getD, List.getElem?_set_ne (by decide), ← List.getD_eq_getElem?_getD, h2]
    have g12 : (τ.set 12 (.va (.int lo))).getD 12 .un = .va (.int lo) := by rw [List.getD_eq_getElem?_getD, List.getElem?_set_self (by omega)]; rfl
    have m : mulOk 2 (lo : Int) = true := mulOk_of (by decide) (p2 (k := 0) (n := 10) (by omega) (by decide))
    have hb : eCall G_UlawUdrawn [eVar 7, eBin oMulV (eC (.int 2)) (eVar 12), eVar 2] (τ.set 12 (.va (.int lo))) = okD (nd r) := by
      have e2 : (2 : Int) * (lo : Int) = ((2 * lo : Nat) : Int) := by omega
      simp only [eCall_ap, eArgs_cons, eArgs_nil, eVar_ap, eBin_ap, eC_ap, g7, g2, g12, bd_ok, Rd_v, oMulV_int _ _ m, okR_some, consR_ok, ab_ok, e2, rg]
    have g' : compGo (tgN 12) yes (eCall G_UlawUdrawn [eVar 7, eBin oMulV (eC (.int 2)) (eVar 12), eVar 2]) τ (intsD n ((lo : Int) + 1)) = some (rs.map nd) := g
    show (match compGo (tgN 12) yes (eCall G_UlawUdrawn [eVar 7, eBin oMulV (eC (.int 2)) (eVar 12), eVar 2]) τ (.int lo :: intsD n ((lo : Int) + 1)) with | x => x) = _
    unfold compGo
    simp only [tgN_ap, yes_ap, asB_bl, hb, g', Rd_v]
    rfl
end Lw
set_option Elab.async false
set_option linter.all false
set_option maxRecDepth 100000
set_option maxHeartbeats 2000000
namespace Lw
open PySem Pv
def bad1 : List D := [.str "", .str "+3", .str "03", .str "-0", .str "3/1", .str "2/4", .str "1/0", .str "0/5", .str "1/-2", .str " 3", .str "3 ", .str "a", .str "-", .str "/2", .str "3/", .str "1/2/3", .str "--3"]
def bad2 : List D := [.str "1/02", .str "1 /2", .str "-", .str "1//2", .str "00", .str "0x1", .str "1.0", .str "3\n", .str ("1" ++ repS "0" 400), .str ("1/1" ++ repS "0" 400)]
theorem bad_read : ∀ i : Nat, i < 27 → ∃ d, (bad1 ++ bad2)[i]? = some d ∧ G_read_number [d] = some (.ex "BadText") := by
  intro i hi
  match i, hi with
  | 0, _ => exact ⟨_, rfl, by kernel_rfl⟩
  | 1, _ => exact ⟨_, rfl, by kernel_rfl⟩
  | 2, _ => exact ⟨_, rfl, by kernel_rfl⟩
  | 3, _ => exact ⟨_, rfl, by kernel_rfl⟩
  | 4, _ => exact ⟨_, rfl, by kernel_rfl⟩
  | 5, _ => exact ⟨_, rfl, by kernel_rfl⟩
  | 6, _ => exact ⟨_, rfl, by kernel_rfl⟩
  | 7, _ => exact ⟨_, rfl, by kernel_rfl⟩
  | 8, _ => exact ⟨_, rfl, by kernel_rfl⟩
  | 9, _ => exact ⟨_, rfl, by kernel_rfl⟩
  | 10, _ => exact ⟨_, rfl, by kernel_rfl⟩
  | 11, _ => exact ⟨_, rfl, by kernel_rfl⟩
  | 12, _ => exact ⟨_, rfl, by kernel_rfl⟩
  | 13, _ => exact ⟨_, rfl, by kernel_rfl⟩
  | 14, _ => exact ⟨_, rfl, by kernel_rfl⟩
  | 15, _ => exact ⟨_, rfl, by kernel_rfl⟩
  | 16, _ => exact ⟨_, rfl, by kernel_rfl⟩
  | 17, _ => exact ⟨_, rfl, by kernel_rfl⟩
  | 18, _ => exact ⟨_, rfl, by kernel_rfl⟩
  | 19, _ => exact ⟨_, rfl, by kernel_rfl⟩
  | 20, _ => exact ⟨_, rfl, by kernel_rfl⟩
  | 21, _ => exact ⟨_, rfl, by kernel_rfl⟩
  | 22, _ => exact ⟨_, rfl, by kernel_rfl⟩
  | 23, _ => exact ⟨_, rfl, by kernel_rfl⟩
  | 24, _ => exact ⟨_, rfl, by kernel_rfl⟩
  | 25, _ => exact ⟨_, rfl, by kernel_rfl⟩
  | 26, _ => exact ⟨_, rfl, by kernel_rfl⟩
  | n + 27, h => exact absurd h (by omega)
def tailB : StF := sSeq (sAsg 11 (eC (.int 1))) (sSeq (sFor (srR1 (eC (.int 399))) (tgN 12) (sSeq (sAsg 11 (eBin oMulV (eVar 11) (eC (.int 10)))) (sSeq (sFrz 11) (sNx)))) (sSeq (sAsg 13 (eBin oAdd (eC (.str "-7/1")) (eBin oMulV (eC (.str "0")) (eC (.int 399))))) (sRet (eAnd (eBin oEq (eCall G_read_number [eBin oAdd (eC (.str "1")) (eBin oMulV (eC (.str "0")) (eC (.int 399)))]) (eVar 11)) (eAnd (eBin oEq (eCall G_read_number [eVar 13]) (eTup [eUn uNeg (eC (.int 7)), eVar 11])) (eBin oEq (eCall G_number_text [eTup [eUn uNeg (eC (.int 7)), eVar 11]]) (eVar 13)))))))
theorem dg_ten (n : Nat) (h : 0 < n) : dg (n * 10) = dg n ++ [48] := by
  have e := @Nat.toDigits_append_toDigits 10 n 0 (by decide) h (by decide)
  unfold dg
  rw [Nat.mul_comm, ← Nat.add_zero (10 * n), ← e, List.map_append]
  rfl
theorem dg_pow : ∀ k : Nat, dg (10 ^ k) = 49 :: List.replicate k 48
  | 0 => by decide +kernel
  | k + 1 => by
    rw [Nat.pow_succ, dg_ten _ (Nat.pow_pos (by decide)), dg_pow k, List.replicate_succ', List.cons_append]
theorem rep0 (n : Nat) : repS (S [48]) n = S (List.replicate n 48) := by
  have e : ∀ n : Nat, (List.replicate n [48]).flatten = List.replicate n 48 := fun n => by
    induction n with
    | zero => rfl
    | succ n ih => rw [List.replicate_succ, List.flatten_cons, ih, List.replicate_succ]; rfl
  show (⟨((List.replicate n [48]).flatten).toArray⟩ : Str) = _
  rw [e]
  rfl
theorem S_0 : ("0" : Str) = S [48] := by decide +kernel
theorem S_1 : ("1" : Str) = S [49] := by decide +kernel
theorem S_71 : ("-7/1" : Str) = S [45, 55, 47, 49] := by decide +kernel
theorem zeros : oMulV (.str "0") (.int 399) = some (.v (.str (S (List.replicate 399 48)))) := by
  rw [S_0]
  show (if (1 : Int) ≤ 399 ∧ (399 : Int) ≤ 1000000 ∧ (S [48]).length * (399 : Int).toNat ≤ line then some (R.v (.str (repS (S [48]) (399 : Int).toNat))) else none) = _
  rw [if_pos (by decide), ← rep0]
  rfl
def tenB : StF := sSeq (sAsg 11 (eBin oMulV (eVar 11) (eC (.int 10)))) (sSeq (sFrz 11) (sNx))
theorem ten_loop (a b c d e f g h i j k u : Sl) : ∀ (n : Nat) (lo x : Int) (m : Nat) (s : Sl), x.natAbs < 2 ^ m → m + 4 * n ≤ 4000 → ∃ s', loop (tgN 12) tenB (intsD n lo) [a, b, c, d, e, f, g, h, i, j, k, .va (.int x), s, u] = some (.nx [a, b, c, d, e, f, g, h, i, j, k, .va (.int (x * 10 ^ n)), s', u])
  | 0, lo, x, m, s, _, _ => ⟨s, by rw [Int.pow_zero, Int.mul_one]; rfl⟩
  | n + 1, lo, x, m, s, hx, hm => by
    obtain ⟨s', q⟩ := ten_loop a b c d e f g h i j k u n (lo + 1) (x * 10) (m + 4) (.va (.int lo)) (pm hx (by decide)) (by omega)
    refine ⟨s', ?_⟩
    rw [show intsD (n + 1) lo = .int lo :: intsD n (lo + 1) from rfl, loop_cons, show x * 10 ^ (n + 1) = x * 10 * 10 ^ n by rw [Int.pow_succ, Int.mul_assoc, Int.mul_comm 10], ← q]
    have mo : mulOk x 10 = true := mulOk_of (p2 (k := 0) hx (by omega)) (by decide)
    have hb : tenB [a, b, c, d, e, f, g, h, i, j, k, .va (.int x), .va (.int lo), u] = some (.nx [a, b, c, d, e, f, g, h, i, j, k, .va (.int (x * 10)), .va (.int lo), u]) := by
      unfold tenB
      simp [oMulV_int, mo]
    simp only [tgN_ap, List.set_cons_succ, List.set_cons_zero, hb]
theorem tail_fin {Gr Gn : Gf} {z one zs l1 l2 T : D} {τ : Ev} (hz : oMulV z (.int 399) = some (.v zs)) (a1 : oAdd one zs = some (.v l1)) (r1 : Gr [l1] = okD T) (r2 : Gr [l2] = okD (.tup [.int (-7), T])) (n2 : Gn [.tup [.int (-7), T]] = okD l2) (q1 : oEq l2 l2 = some (.v (.bl true)))
    (q2 : oEq (.tup [.int (-7), T]) (.tup [.int (-7), T]) = some (.v (.bl true))) (m7 : oEq T T = some (.v (.bl true))) (tl : ([D.int (-7), T] : List D).length ≤ Pv.line) (h11 : τ.getD 11 .un = .va T) (h13 : τ.getD 13 .un = .va l2) :
    sRet (eAnd (eBin oEq (eCall Gr [eBin oAdd (eC one) (eBin oMulV (eC z) (eC (.int 399)))]) (eVar 11)) (eAnd (eBin oEq (eCall Gr [eVar 13]) (eTup [eUn uNeg (eC (.int 7)), eVar 11])) (eBin oEq (eCall Gn [eTup [eUn uNeg (eC (.int 7)), eVar 11]]) (eVar 13)))) τ = some (.rt (.v (.bl true))) := by
  simp only [sRet_ap, eAnd_ap, eBin_ap, eCall_ap, eArgs_cons, eArgs_nil, eC_ap, eVar_ap, eTup_ap, eUn_ap, h11, h13, bd_ok, Rd_v, okR_some, consR_ok, ab_ok, hz, a1, r1, r2, n2, q1, q2, m7, asB_bl, Option.elim, if_true, uNeg_int, tl, sd_ok]
theorem tail_ok (a b c d e f g h i j k : Sl) : tailB [a, b, c, d, e, f, g, h, i, j, k, .un, .un, .un] = some (.rt (.v (.bl true))) := by
  obtain ⟨s', q⟩ := ten_loop a b c d e f g h i j k .un 399 0 1 1 .un (by decide) (by decide)
  generalize hT : (10 : Int) ^ 399 = T at q
  rw [Int.one_mul] at q
  have hTn : T.natAbs = 10 ^ 399 := by rw [← hT, Int.natAbs_pow]; rfl
  have hT1 : 1 ≤ T := by
    have : (0 : Int) < 10 ^ 399 := Int.pow_pos (by decide)
    omega
  have hT2 : T ≠ 1 := by
    intro z
    rw [z] at hTn
    exact absurd hTn (by decide +kernel)
  have dT : Dt T := by
    show T.natAbs < 10 ^ 400
    rw [hTn]
    decide +kernel
  have d7 : Dt (-7) := by
    show (-7 : Int).natAbs < 10 ^ 400
    decide +kernel
  have d1 : Dt 1 := by
    show (1 : Int).natAbs < 10 ^ 400
    decide +kernel
  have g7 : Int.gcd (-7) T = 1 := by
    show Nat.gcd 7 T.natAbs = 1
    rw [hTn]
    decide +kernel
  have tT : tx T = 49 :: List.replicate 399 48 := by rw [tx_pos (by omega), hTn, dg_pow]
  have t7 : tx (-7) = [45, 55] := by decide +kernel
  have r1 := read_ok (p := T) (q := 1) (by decide) (Int.gcd_one_right ..) dT d1
  have e1 : txn T 1 = [49] ++ List.replicate 399 48 := by unfold txn; rw [if_pos rfl, tT]; rfl
  have r2 := read_ok (p := -7) (q := T) hT1 g7 d7 dT
  have n2 := number_text_ok (p := -7) (q := T) d7 dT
  have e2 : txn (-7) T = [45, 55, 47, 49] ++ List.replicate 399 48 := by unfold txn; rw [if_neg hT2, tT, t7]; rfl
  rw [e1] at r1
  rw [e2] at r2 n2
  rw [num_one] at r1
  rw [num_tup hT2] at r2 n2
  have a1 : oAdd (.str "1") (.str (S (List.replicate 399 48))) = some (.v (.str (S ([49] ++ List.replicate 399 48)))) := by
    rw [S_1]
    exact add_S (by rw [List.length_replicate]; decide)
  have a2 : oAdd (.str "-7/1") (.str (S (List.replicate 399 48))) = some (.v (.str (S ([45, 55, 47, 49] ++ List.replicate 399 48)))) := by
    rw [S_71]
    exact add_S (by rw [List.length_replicate]; decide)
  have pz : ∀ n, Pl (List.replicate n 48) := fun n c hc => by rw [List.eq_of_mem_replicate hc]; decide
  have q1 : oEq (.str (S ([45, 55, 47, 49] ++ List.replicate 399 48))) (.str (S ([45, 55, 47, 49] ++ List.replicate 399 48))) = some (.v (.bl true)) := by
    have pl : Pl ([45, 55, 47, 49] ++ List.replicate 399 48) := Pl.app (by intro c hc; simp at hc; omega) (pz _)
    rw [eq_S pl pl, decide_eq_true rfl]
  have q2 : oEq (.tup [.int (-7), .int T]) (.tup [.int (-7), .int T]) = some (.v (.bl true)) := by
    have := eq_nd (-7, T)
    unfold nd at this
    rw [num_tup hT2] at this
    exact this
  have rg : rgOk 399 = true := by decide
  have zz := zeros
  generalize [49] ++ List.replicate 399 48 = L1 at *
  generalize [45, 55, 47, 49] ++ List.replicate 399 48 = L2 at *
  clear e1 e2 tT pz
  generalize List.replicate 399 48 = Z at *
  unfold tailB
  unfold tenB at q
  refine sSeq_to (by simp; rfl) ?_
  refine sSeq_to (τ' := [a, b, c, d, e, f, g, h, i, j, k, .va (.int T), s', .un]) (by simp [rg, -sSeq_ap]; exact q) ?_
  refine sSeq_to (by simp [zz, a2]; rfl) ?_
  have m7 : oEq (.int T) (.int T) = some (.v (.bl true)) := by simp
  have tl : ([D.int (-7), D.int T] : List D).length ≤ Pv.line := by
    show 2 ≤ Pv.line
    decide
  exact tail_fin zz a1 r1 r2 n2 q1 q2 m7 tl rfl rfl
end Lw
set_option Elab.async false
set_option linter.all false
set_option maxRecDepth 100000
set_option maxHeartbeats 4000000
namespace Lw
open PySem Pv
theorem Ok.dt {r : Pr} (h : Ok r) : Dt r.1 := Nat.lt_of_lt_of_le h.st (by decide +kernel)
theorem Ok.dq {r : Pr} (h : Ok r) : r.2.natAbs < 10 ^ 100 := Nat.lt_of_lt_of_le h.sb (by decide +kernel)
theorem Ok.d2 {r : Pr} (h : Ok r) : Dt r.2 := Nat.lt_of_lt_of_le h.sb (by decide +kernel)
theorem sfx_ok {r : Pr} (h : Ok r) (τ : Ev) (i : Nat) (hi : τ.getD i .un = .va (nd r)) : eCall G_UlawUnoUtext [eBin oAdd (eCall G_number_text [eVar i]) (eC (.str "/7/9"))] τ = okD (.bl true) := by
  obtain ⟨x, ex, hx⟩ := alone_sfx h.dt h.dq h.pos
  obtain ⟨y, e1, e2⟩ := hx [.un, .va (nd r)] rfl
  rw [← ex] at e1
  have e3 : eBin oAdd (eCall G_number_text [eVar i]) (eC (.str "/7/9")) τ = okD (.str y) := by
    rw [← e1]
    simp only [eBin_ap, eCall_ap, eArgs_cons, eArgs_nil, eVar_ap, hi]
    rfl
  simp only [eCall_ap, eArgs_cons, eArgs_nil] at e3 ⊢
  rw [e3]
  exact no_text_ok e2
theorem values_nd {r s : Pr} (h : Ok r) (k : Ok s) : G_UlawUvalues [nd r, nd s] = okD (.bl true) := values_ok h.pos k.pos h.st h.x2 k.st k.x2
theorem texts_nd {r : Pr} (h : Ok r) : G_UlawUtexts [nd r] = okD (.bl true) := texts_ok h.pos h.cop h.dt h.d2 (p2 (k := 0) h.sb (by decide))
def txB : StF := sIf (eNot (eCall G_UlawUtexts [eVar 9])) (sRet (eC (.bl false))) (sNx)
theorem tx_loop (a b c d e f g h i k l m n : Sl) : ∀ (rs : List Pr) (s : Sl), (∀ r ∈ rs, Ok r) → ∃ s', loop (tgN 9) txB (rs.map nd) [a, b, c, d, e, f, g, h, i, s, k, l, m, n] = some (.nx [a, b, c, d, e, f, g, h, i, s', k, l, m, n])
  | [], s, _ => ⟨s, rfl⟩
  | r :: rs, s, o => by
    obtain ⟨s', q⟩ := tx_loop a b c d e f g h i k l m n rs (.va (nd r)) fun x hx => o x (List.mem_cons_of_mem _ hx)
    refine ⟨s', ?_⟩
    rw [show (r :: rs).map nd = nd r :: rs.map nd from rfl, loop_cons, ← q]
    have hb : txB [a, b, c, d, e, f, g, h, i, .va (nd r), k, l, m, n] = some (.nx [a, b, c, d, e, f, g, h, i, .va (nd r), k, l, m, n]) := by
      unfold txB
      simp [texts_nd (o r List.mem_cons_self)]
    simp only [tgN_ap, List.set_cons_succ, List.set_cons_zero, hb]
theorem bad_ix {x : Int} (h0 : 0 ≤ x) (h1 : x < 27) : ∃ d, oIx (.lst (bad1 ++ bad2)) (.int x) = some (.v d) ∧ G_UlawUnoUtext [d] = okD (.bl true) := by
  obtain ⟨d, e1, e2⟩ := bad_read x.toNat (by omega)
  refine ⟨d, ?_, no_text_ok e2⟩
  show ((atI (bad1 ++ bad2).length x).bind fun j => ((bad1 ++ bad2)[j]?).map R.v) = _
  unfold atI
  rw [if_pos h0, if_pos (show x < ((bad1 ++ bad2).length : Int) from h1)]
  show (((bad1 ++ bad2)[x.toNat]?).map R.v) = _
  rw [e1]
  rfl
theorem alone_0n (r : Pr) : G_UlawUalone [.int 0, nd r] = some (.ok (.own [.int 12])) := alone_0 _ _
theorem alone_1n (r : Pr) : G_UlawUalone [.int 1, nd r] = some (.ok (.own [.int 12])) := alone_1 _ _
theorem alone_2n {r : Pr} (h : Ok r) : G_UlawUalone [.int 2, nd r] = some (.ok (.own [.int 18])) := alone_2 h.dt h.dq h.pos
theorem ne_12 (i : Int) : oNe (.lst [.int i]) (.lst [.int i]) = some (.v (.bl false)) := by
  show some (R.v (.bl (!((i == i) && true)))) = _
  simp
theorem eight {xs : List Int} (h : xs.length = 8) : ∃ a b c d e f g i : Int, xs = [a, b, c, d, e, f, g, i] := by
  match xs, h with
  | [a, b, c, d, e, f, g, i], _ => exact ⟨a, b, c, d, e, f, g, i, rfl⟩
end Lw
set_option Elab.async false
set_option linter.all false
set_option maxRecDepth 100000
set_option maxHeartbeats 4000000
namespace Lw
open PySem Pv
theorem add_str {x y : Str} (h : x.length + y.length ≤ line) : oAdd (.str x) (.str y) = some (.v (.str (x ++ y))) := by
  show (if x.length + y.length ≤ line then some (R.v (.str (x ++ y))) else none) = _
  rw [if_pos h]
theorem add_lst {x y : List D} (h : x.length ≤ line ∧ y.length ≤ line ∧ x.length + y.length ≤ line) : oAdd (.lst x) (.lst y) = some (.own (x ++ y)) := by
  show (if x.length ≤ line ∧ y.length ≤ line ∧ x.length + y.length ≤ line then some (R.own (x ++ y)) else none) = _
  rw [if_pos h]
theorem mul_str {x : Str} {k : Int} (h : 1 ≤ k ∧ k ≤ 1000000 ∧ x.length * k.toNat ≤ line) : oMulV (.str x) (.int k) = some (.v (.str (repS x k.toNat))) := by
  show (if 1 ≤ k ∧ k ≤ 1000000 ∧ x.length * k.toNat ≤ line then some (R.v (.str (repS x k.toNat))) else none) = _
  rw [if_pos h]
theorem e400 : oMulV (.str "0") (.int 400) = some (.v (.str (repS "0" 400))) := mul_str (by decide +kernel)
theorem a400 : oAdd (.str "1") (.str (repS "0" 400)) = some (.v (.str ("1" ++ repS "0" 400))) := add_str (by decide +kernel)
theorem b400 : oAdd (.str "1/1") (.str (repS "0" 400)) = some (.v (.str ("1/1" ++ repS "0" 400))) := add_str (by decide +kernel)
def badE1 : ExF := eLst [eC (.str ""), eC (.str "+3"), eC (.str "03"), eC (.str "-0"), eC (.str "3/1"), eC (.str "2/4"), eC (.str "1/0"), eC (.str "0/5"), eC (.str "1/-2"), eC (.str " 3"), eC (.str "3 "), eC (.str "a"), eC (.str "-"), eC (.str "/2"), eC (.str "3/"), eC (.str "1/2/3"), eC (.str "--3")]
theorem badE1_ok (τ : Ev) : badE1 τ = some (.ok (.own bad1)) := by
  unfold badE1
  simp only [eLst_ap, eArgs_cons, eArgs_nil, eC_ap, Rd_v, consR_ok, ab_ok]
  exact if_pos (show (17 : Nat) ≤ line by decide)
def badE2 : ExF := eLst [eC (.str "1/02"), eC (.str "1 /2"), eC (.str "-"), eC (.str "1//2"), eC (.str "00"), eC (.str "0x1"), eC (.str "1.0"), eC (.str "3\n"), eBin oAdd (eC (.str "1")) (eBin oMulV (eC (.str "0")) (eC (.int 400))), eBin oAdd (eC (.str "1/1")) (eBin oMulV (eC (.str "0")) (eC (.int 400)))]
theorem badE2_ok (τ : Ev) : badE2 τ = some (.ok (.own bad2)) := by
  unfold badE2
  simp only [eLst_ap, eArgs_cons, eArgs_nil, eC_ap, eBin_ap, bd_ok, e400, a400, b400, okR_some, Rd_v, consR_ok, ab_ok]
  exact if_pos (show (10 : Nat) ≤ line by decide)
theorem law_true (ns : List Int) (hn : ns.length ≤ 63) : G_law [.scr ns] = okD (.bl true) := by
  obtain ⟨xs, n8, l8, r8⟩ := numbers_ok ns 0 8 8 (by decide) rfl (by decide)
  obtain ⟨ms, n14, l14, r14⟩ := numbers_ok ns 1 14 14 (by decide) rfl (by decide)
  have n8 : G_UlawUnumbers [.scr ns, .int 0, .int 8] = some (.ok (.own (ii xs))) := n8
  have n14 : G_UlawUnumbers [.scr ns, .int 1, .int 14] = some (.ok (.own (ii ms))) := n14
  obtain ⟨x0, x1, x2, x3, x4, x5, x6, x7, hx⟩ := eight l8
  generalize hlg : decide (x6.fmod 4 = 1) = large
  obtain ⟨rx, ox, dx⟩ := drawn_ok (xs := xs) (k := 0) (by omega) r8 large
  obtain ⟨ry, oy, dy⟩ := drawn_ok (xs := xs) (k := 2) (by omega) r8 (large && decide (x6.fmod 3 = 1))
  have dx : G_UlawUdrawn [.lst (ii xs), .int 0, .bl large] = okD (nd rx) := dx
  have dy : G_UlawUdrawn [.lst (ii xs), .int 2, .bl (large && decide (x6.fmod 3 = 1))] = okD (nd ry) := dy
  have i0 : oIx (.lst (ii xs)) (.int 0) = some (.v (.int x0)) := by rw [hx]; rfl
  have i4 : oIx (.lst (ii xs)) (.int 4) = some (.v (.int x4)) := by rw [hx]; rfl
  have i5 : oIx (.lst (ii xs)) (.int 5) = some (.v (.int x5)) := by rw [hx]; rfl
  have i6 : oIx (.lst (ii xs)) (.int 6) = some (.v (.int x6)) := by rw [hx]; rfl
  have i7 : oIx (.lst (ii xs)) (.int 7) = some (.v (.int x7)) := by rw [hx]; rfl
  have rx0 := r8 x0 (by rw [hx]; simp)
  clear hx r8 l8
  generalize ii xs = L at *
  have b0 : 0 ≤ x4.fmod 60 := Int.fmod_nonneg_of_pos x4 (by decide)
  have b1 : x4.fmod 60 < 60 := Int.fmod_lt_of_pos x4 (by decide)
  have c0 : 0 ≤ x5.fmod 7 := Int.fmod_nonneg_of_pos x5 (by decide)
  have c1 : x5.fmod 7 < 7 := Int.fmod_lt_of_pos x5 (by decide)
  have k0 : 0 ≤ x7.fmod 27 := Int.fmod_nonneg_of_pos x7 (by decide)
  have k1 : x7.fmod 27 < 27 := Int.fmod_lt_of_pos x7 (by decide)
  generalize hb0 : 1 + x4.fmod 60 = bb0
  generalize hbb : (if x4.fmod 2 = 1 then -bb0 else bb0) = bb
  have hbz : bb ≠ 0 := by rw [← hbb]; split <;> omega
  have hbs : bb.natAbs < 2 ^ 6 := by rw [← hbb]; split <;> omega
  generalize ha : x0 - 5003 = a
  have has : a.natAbs < 2 ^ 20 := by omega
  obtain ⟨p, q, q1, q2, q3, q4, q5, q6⟩ := ratio_ok (t := a) (b := bb) hbz (p2 (k := 0) hbs (by decide))
  have st := stands_ok (p := p) (q := q) (t := a) (b := bb) q1 q2 q3 (p2 (k := 0) (Nat.lt_of_le_of_lt q5 hbs) (by decide)) (mk (Nat.lt_of_le_of_lt q4 has) hbs) (mk has (Nat.lt_of_le_of_lt q5 hbs))
  have nr := no_ratio_ok a
  have nq : G_UlawUnoUquotient [nd rx] = okD (.bl true) := no_quotient_ok _ _
  obtain ⟨bd, e1, e2⟩ := bad_ix k0 k1
  have rg : rgOk (x5.fmod 7) = true := by
    unfold rgOk
    rw [decide_eq_true (by omega), decide_eq_true (by omega)]
    rfl
  refine fnRun_rt rfl ?_
  unfold B_law
  refine sSeq_to (by simp [n8]; rfl) ?_
  refine sSeq_to (by simp; rfl) ?_
  refine sSeq_to (by simp [i6, oMod_int, hlg]; rfl) ?_
  refine sSeq_to (by simp [dx]; rfl) ?_
  refine sSeq_to (by simp; rfl) ?_
  refine sSeq_to (τ' := [.va (.scr ns), .va (.lst L), .va (.bl large), .va (nd rx), .va (nd ry), .un, .un, .un, .un, .un, .un, .un, .un, .un]) (by
    cases large with
    | false =>
      rw [Bool.false_and] at dy
      simp [dy]
    | true =>
      rw [Bool.true_and] at dy
      simp [i6, oMod_int, dy]) ?_
  refine sSeq_to (by simp; rfl) ?_
  refine sSeq_to (by simp [i0, ha]; rfl) ?_
  refine sSeq_to (by simp [i4, oMod_int, hb0]; rfl) ?_
  refine sSeq_to (τ' := [.va (.scr ns), .va (.lst L), .va (.bl large), .va (nd rx), .va (nd ry), .va (.int a), .va (.int bb), .un, .un, .un, .un, .un, .un, .un]) (by
    by_cases z : x4.fmod 2 = 1
    · rw [if_pos z] at hbb
      simp [i4, oMod_int, z, hbb]
    · rw [if_neg z] at hbb
      simp [i4, oMod_int, z, hbb]) ?_
  refine sSeq_to (by simp [q6, st, nr, nq]; rfl) ?_
  refine sSeq_to (by simp [alone_0n, alone_1n, alone_2n oy, ne_12, line]; rfl) ?_
  refine sSeq_to (by simp [values_nd ox oy, values_nd oy ox, values_nd ox ox]; rfl) ?_
  refine sSeq_to (by simp [n14]; rfl) ?_
  refine sSeq_to (by simp; rfl) ?_
  obtain ⟨rs, or, lr, cg⟩ := row_comp r14 large (x5.fmod 7).toNat 0 [.va (.scr ns), .va (.lst L), .va (.bl large), .va (nd rx), .va (nd ry), .va (.int a), .va (.int bb), .va (.lst (ii ms)), .un, .un, .un, .un, .un, .un] rfl rfl rfl (by omega) (by omega)
  have cg : compGo (tgN 12) yes (eCall G_UlawUdrawn [eVar 7, eBin oMulV (eC (.int 2)) (eVar 12), eVar 2]) [.va (.scr ns), .va (.lst L), .va (.bl large), .va (nd rx), .va (nd ry), .va (.int a), .va (.int bb), .va (.lst (ii ms)), .un, .un, .un, .un, .un, .un] (intsD (x5.fmod 7).toNat 0) = some (rs.map nd) := cg
  have li : (intsD (x5.fmod 7).toNat 0).length ≤ line := by
    rw [Pw.intsD_length]
    show _ ≤ 16777216
    omega
  refine sSeq_to (τ' := [.va (.scr ns), .va (.lst L), .va (.bl large), .va (nd rx), .va (nd ry), .va (.int a), .va (.int bb), .va (.lst (ii ms)), .ow false (rs.map nd), .un, .un, .un, .un, .un]) (by
    simp only [sAsg_ap, eComp_ap, srR1_ap, eBin_ap, eB1_ap, eVar_ap, eC_ap, List.getD_cons_succ, List.getD_cons_zero, bd_ok, Rd_v, i5, okR_some, bInt_int, oMod_int _ _ (show (7 : Int) ≠ 0 by decide), srB_ok, rg, if_true, ab_ok, wipeT_cons, wipeT_nil, List.set_cons_succ, List.set_cons_zero, cg, li, sd_ok, Rsl_own]) ?_
  refine sSeq_to (by simp; rfl) ?_
  refine sSeq_to (by simp [lists_ok or (by omega)]; rfl) ?_
  have rall : ∀ r ∈ rs ++ [rx, ry], Ok r := fun r hr => by
    rcases List.mem_append.mp hr with h | h
    · exact or r h
    · rcases List.mem_cons.mp h with rfl | h
      · exact ox
      · have : r = ry := by simpa using h
        rw [this]
        exact oy
  obtain ⟨s9, tl⟩ := tx_loop (.va (.scr ns)) (.va (.lst L)) (.va (.bl large)) (.va (nd rx)) (.va (nd ry)) (.va (.int a)) (.va (.int bb)) (.va (.lst (ii ms))) (.va (.lst (rs.map nd))) .un .un .un .un (rs ++ [rx, ry]) .un rall
  have ap : oAdd (.lst (rs.map nd)) (.lst [nd rx, nd ry]) = some (.own ((rs ++ [rx, ry]).map nd)) := by
    show (if (rs.map nd).length ≤ line ∧ [nd rx, nd ry].length ≤ line ∧ (rs.map nd).length + [nd rx, nd ry].length ≤ line then some (R.own (rs.map nd ++ [nd rx, nd ry])) else none) = _
    have h2 : (rs.map nd).length ≤ 6 := by rw [List.length_map]; omega
    have hl : (line : Nat) = 16777216 := rfl
    rw [if_pos ⟨by omega, by rw [hl]; show 2 ≤ 16777216; decide, by simp only [List.length_cons, List.length_nil]; omega⟩, List.map_append]
    rfl
  refine sSeq_to (τ' := [.va (.scr ns), .va (.lst L), .va (.bl large), .va (nd rx), .va (nd ry), .va (.int a), .va (.int bb), .va (.lst (ii ms)), .va (.lst (rs.map nd)), s9, .un, .un, .un, .un]) (by
    unfold txB at tl
    have l2 : ([nd rx, nd ry] : List D).length ≤ line := by show 2 ≤ line; decide
    simp only [sFor_ap, srSeq_ap, eBin_ap, eLst_ap, eArgs_cons, eArgs_nil, eVar_ap, List.getD_cons_succ, List.getD_cons_zero, bd_ok, Rd_v, Rd_own, consR_ok, ab_ok, l2, if_true, ap, okR_some, srB_ok]
    exact tl) ?_
  refine sSeq_to (τ' := [.va (.scr ns), .va (.lst L), .va (.bl large), .va (nd rx), .va (nd ry), .va (.int a), .va (.int bb), .va (.lst (ii ms)), .va (.lst (rs.map nd)), s9, .ow false bad1, .un, .un, .un]) (by
    have h := badE1_ok [.va (.scr ns), .va (.lst L), .va (.bl large), .va (nd rx), .va (nd ry), .va (.int a), .va (.int bb), .va (.lst (ii ms)), .va (.lst (rs.map nd)), s9, .un, .un, .un, .un]
    unfold badE1 at h
    rw [sAsg_ap, h]
    rfl) ?_
  refine sSeq_to (by simp; rfl) ?_
  refine sSeq_to (τ' := [.va (.scr ns), .va (.lst L), .va (.bl large), .va (nd rx), .va (nd ry), .va (.int a), .va (.int bb), .va (.lst (ii ms)), .va (.lst (rs.map nd)), s9, .ow false (bad1 ++ bad2), .un, .un, .un]) (by
    have h := badE2_ok [.va (.scr ns), .va (.lst L), .va (.bl large), .va (nd rx), .va (nd ry), .va (.int a), .va (.int bb), .va (.lst (ii ms)), .va (.lst (rs.map nd)), s9, .va (.lst bad1), .un, .un, .un]
    unfold badE2 at h
    have ab : oAdd (.lst bad1) (.lst bad2) = some (.own (bad1 ++ bad2)) := add_lst (by decide)
    rw [sAsg_ap, eBin_ap, h]
    simp [ab]) ?_
  refine sSeq_to (by simp; rfl) ?_
  have bl27 : bLen (.lst (bad1 ++ bad2)) = some (.v (.int 27)) := rfl
  generalize bad1 ++ bad2 = BB at *
  have sf : eCall G_UlawUnoUtext [eBin oAdd (eCall G_number_text [eVar 3]) (eC (.str "/7/9"))] [.va (.scr ns), .va (.lst L), .va (.bl large), .va (nd rx), .va (nd ry), .va (.int a), .va (.int bb), .va (.lst (ii ms)), .va (.lst (rs.map nd)), s9, .va (.lst BB), .un, .un, .un] = okD (.bl true) := sfx_ok ox _ 3 rfl
  refine sSeq_to (τ' := [.va (.scr ns), .va (.lst L), .va (.bl large), .va (nd rx), .va (nd ry), .va (.int a), .va (.int bb), .va (.lst (ii ms)), .va (.lst (rs.map nd)), s9, .va (.lst BB), .un, .un, .un]) (by
    rw [sIf_ap, eOr_ap, eNot_ap, eNot_ap, sf]
    simp [i7, bl27, oMod_int, e1, e2]) ?_
  have t := tail_ok (.va (.scr ns)) (.va (.lst L)) (.va (.bl large)) (.va (nd rx)) (.va (nd ry)) (.va (.int a)) (.va (.int bb)) (.va (.lst (ii ms))) (.va (.lst (rs.map nd))) s9 (.va (.lst BB))
  unfold tailB at t
  exact t
end Lw
set_option Elab.async false
set_option linter.all false
set_option maxRecDepth 100000
set_option maxHeartbeats 0
namespace Hd
open PySem PySem.Spec PyProof.Rows L2 Pw Lw
theorem tab {P : Program} {w : World} {K : PySem.W.Frag} {h base : Heap} {mg : Str → Option Value} (X : K.In h) (G : h.Ns mainGlobals mg) (c : He.SaysD fa fn K) (e : exAll xf K = true) : Tab P w K mg base where
  d_ratio := let ⟨fd, F⟩ := c.def_ 0 (d := d52) rfl; ⟨_, fd, He.glo_ok X G (c.fact 0 (f := .glo "ratio") rfl), F⟩
  d_is_whole := let ⟨fd, F⟩ := c.def_ 1 (d := d53) rfl; ⟨_, fd, He.glo_ok X G (c.fact 1 (f := .glo "is_whole") rfl), F⟩
  d_top_of := let ⟨fd, F⟩ := c.def_ 2 (d := d54) rfl; ⟨_, fd, He.glo_ok X G (c.fact 2 (f := .glo "top_of") rfl), F⟩
  d_bottom_of := let ⟨fd, F⟩ := c.def_ 3 (d := d55) rfl; ⟨_, fd, He.glo_ok X G (c.fact 3 (f := .glo "bottom_of") rfl), F⟩
  d_read_numeral := let ⟨fd, F⟩ := c.def_ 4 (d := d68) rfl; ⟨_, fd, He.glo_ok X G (c.fact 4 (f := .glo "read_numeral") rfl), F⟩
  d_UlawUcell := let ⟨fd, F⟩ := c.def_ 5 (d := d71) rfl; ⟨_, fd, He.glo_ok X G (c.fact 5 (f := .glo "_law_cell") rfl), F⟩
  d_UlawUgcd := let ⟨fd, F⟩ := c.def_ 6 (d := d73) rfl; ⟨_, fd, He.glo_ok X G (c.fact 6 (f := .glo "_law_gcd") rfl), F⟩
  d_UlawUtop := let ⟨fd, F⟩ := c.def_ 7 (d := d75) rfl; ⟨_, fd, He.glo_ok X G (c.fact 7 (f := .glo "_law_top") rfl), F⟩
  d_UlawUbottom := let ⟨fd, F⟩ := c.def_ 8 (d := d76) rfl; ⟨_, fd, He.glo_ok X G (c.fact 8 (f := .glo "_law_bottom") rfl), F⟩
  d_UlawUisUint := let ⟨fd, F⟩ := c.def_ 9 (d := d77) rfl; ⟨_, fd, He.glo_ok X G (c.fact 9 (f := .glo "_law_is_int") rfl), F⟩
  d_plus := let ⟨fd, F⟩ := c.def_ 10 (d := d56) rfl; ⟨_, fd, He.glo_ok X G (c.fact 10 (f := .glo "plus") rfl), F⟩
  d_minus := let ⟨fd, F⟩ := c.def_ 11 (d := d57) rfl; ⟨_, fd, He.glo_ok X G (c.fact 11 (f := .glo "minus") rfl), F⟩
  d_times := let ⟨fd, F⟩ := c.def_ 12 (d := d58) rfl; ⟨_, fd, He.glo_ok X G (c.fact 12 (f := .glo "times") rfl), F⟩
  d_over := let ⟨fd, F⟩ := c.def_ 13 (d := d59) rfl; ⟨_, fd, He.glo_ok X G (c.fact 13 (f := .glo "over") rfl), F⟩
  d_less := let ⟨fd, F⟩ := c.def_ 14 (d := d60) rfl; ⟨_, fd, He.glo_ok X G (c.fact 14 (f := .glo "less") rfl), F⟩
  d_floor_of := let ⟨fd, F⟩ := c.def_ 15 (d := d61) rfl; ⟨_, fd, He.glo_ok X G (c.fact 15 (f := .glo "floor_of") rfl), F⟩
  d_ceiling_of := let ⟨fd, F⟩ := c.def_ 16 (d := d62) rfl; ⟨_, fd, He.glo_ok X G (c.fact 16 (f := .glo "ceiling_of") rfl), F⟩
  d_nearest := let ⟨fd, F⟩ := c.def_ 17 (d := d63) rfl; ⟨_, fd, He.glo_ok X G (c.fact 17 (f := .glo "nearest") rfl), F⟩
  d_common_bottom := let ⟨fd, F⟩ := c.def_ 18 (d := d64) rfl; ⟨_, fd, He.glo_ok X G (c.fact 18 (f := .glo "common_bottom") rfl), F⟩
  d_number_text := let ⟨fd, F⟩ := c.def_ 19 (d := d67) rfl; ⟨_, fd, He.glo_ok X G (c.fact 19 (f := .glo "number_text") rfl), F⟩
  d_UlawUnumbers := let ⟨fd, F⟩ := c.def_ 20 (d := d72) rfl; ⟨_, fd, He.glo_ok X G (c.fact 20 (f := .glo "_law_numbers") rfl), F⟩
  d_UlawUmake := let ⟨fd, F⟩ := c.def_ 21 (d := d74) rfl; ⟨_, fd, He.glo_ok X G (c.fact 21 (f := .glo "_law_make") rfl), F⟩
  d_UlawUisUnumber := let ⟨fd, F⟩ := c.def_ 22 (d := d78) rfl; ⟨_, fd, He.glo_ok X G (c.fact 22 (f := .glo "_law_is_number") rfl), F⟩
  d_UlawUnoUratio := let ⟨fd, F⟩ := c.def_ 23 (d := d82) rfl; ⟨_, fd, He.glo_ok X G (c.fact 23 (f := .glo "_law_no_ratio") rfl), F⟩
  d_least_of := let ⟨fd, F⟩ := c.def_ 24 (d := d65) rfl; ⟨_, fd, He.glo_ok X G (c.fact 24 (f := .glo "least_of") rfl), F⟩
  d_greatest_of := let ⟨fd, F⟩ := c.def_ 25 (d := d66) rfl; ⟨_, fd, He.glo_ok X G (c.fact 25 (f := .glo "greatest_of") rfl), F⟩
  d_read_number := let ⟨fd, F⟩ := c.def_ 26 (d := d69) rfl; ⟨_, fd, He.glo_ok X G (c.fact 26 (f := .glo "read_number") rfl), F⟩
  d_UlawUstands := let ⟨fd, F⟩ := c.def_ 27 (d := d79) rfl; ⟨_, fd, He.glo_ok X G (c.fact 27 (f := .glo "_law_stands") rfl), F⟩
  d_UlawUdrawn := let ⟨fd, F⟩ := c.def_ 28 (d := d80) rfl; ⟨_, fd, He.glo_ok X G (c.fact 28 (f := .glo "_law_drawn") rfl), F⟩
  d_UlawUnoUquotient := let ⟨fd, F⟩ := c.def_ 29 (d := d83) rfl; ⟨_, fd, He.glo_ok X G (c.fact 29 (f := .glo "_law_no_quotient") rfl), F⟩
  d_UlawUnoUtext := let ⟨fd, F⟩ := c.def_ 30 (d := d81) rfl; ⟨_, fd, He.glo_ok X G (c.fact 30 (f := .glo "_law_no_text") rfl), F⟩
  d_UlawUalone := let ⟨fd, F⟩ := c.def_ 31 (d := d84) rfl; ⟨_, fd, He.glo_ok X G (c.fact 31 (f := .glo "_law_alone") rfl), F⟩
  d_UlawUtexts := let ⟨fd, F⟩ := c.def_ 32 (d := d85) rfl; ⟨_, fd, He.glo_ok X G (c.fact 32 (f := .glo "_law_texts") rfl), F⟩
  d_UlawUvalues := let ⟨fd, F⟩ := c.def_ 33 (d := d86) rfl; ⟨_, fd, He.glo_ok X G (c.fact 33 (f := .glo "_law_values") rfl), F⟩
  d_UlawUlists := let ⟨fd, F⟩ := c.def_ 34 (d := d87) rfl; ⟨_, fd, He.glo_ok X G (c.fact 34 (f := .glo "_law_lists") rfl), F⟩
  d_law := let ⟨fd, F⟩ := c.def_ 35 (d := d88) rfl; ⟨_, fd, He.glo_ok X G (c.fact 35 (f := .glo "law") rfl), F⟩
  b_ValueError := He.free_ok X G (c.fact 36 (f := .free "ValueError") rfl)
  b_abs := He.free_ok X G (c.fact 37 (f := .free "abs") rfl)
  b_bool := He.free_ok X G (c.fact 38 (f := .free "bool") rfl)
  m_gcd := xf_bi X G (exAll_at e 0 (f := .bi "gcd" "math.gcd") rfl)
  b_int := He.free_ok X G (c.fact 39 (f := .free "int") rfl)
  b_isinstance := He.free_ok X G (c.fact 40 (f := .free "isinstance") rfl)
  m_lcm := xf_bi X G (exAll_at e 1 (f := .bi "lcm" "math.lcm") rfl)
  b_len := He.free_ok X G (c.fact 41 (f := .free "len") rfl)
  b_list := He.free_ok X G (c.fact 42 (f := .free "list") rfl)
  b_range := He.free_ok X G (c.fact 43 (f := .free "range") rfl)
  b_str := He.free_ok X G (c.fact 44 (f := .free "str") rfl)
  b_tuple := He.free_ok X G (c.fact 45 (f := .free "tuple") rfl)
  g_DIGITS := He.str_ok X G (c.fact 46 (f := .str "DIGITS" "0123456789") rfl)
  g_MOST_DIGITS := He.int_ok X G (c.fact 47 (f := .int "MOST_DIGITS" 400) rfl)
  e_BadText := He.exc_ok (c.fact 95 (f := .exc "BadText") rfl)
  e_ZeroBottom := He.exc_ok (c.fact 96 (f := .exc "ZeroBottom") rfl)
  k_BadAhead := He.glo_ok X G (c.fact 48 (f := .glo "BadAhead") rfl)
  k_BadChance := He.glo_ok X G (c.fact 49 (f := .glo "BadChance") rfl)
  k_BadClash := He.glo_ok X G (c.fact 50 (f := .glo "BadClash") rfl)
  k_BadColour := He.glo_ok X G (c.fact 51 (f := .glo "BadColour") rfl)
  k_BadCrossing := He.glo_ok X G (c.fact 52 (f := .glo "BadCrossing") rfl)
  k_BadCut := He.glo_ok X G (c.fact 53 (f := .glo "BadCut") rfl)
  k_BadDays := He.glo_ok X G (c.fact 54 (f := .glo "BadDays") rfl)
  k_BadDeed := He.glo_ok X G (c.fact 55 (f := .glo "BadDeed") rfl)
  k_BadLine := He.glo_ok X G (c.fact 56 (f := .glo "BadLine") rfl)
  k_BadLot := He.glo_ok X G (c.fact 57 (f := .glo "BadLot") rfl)
  k_BadName := He.glo_ok X G (c.fact 58 (f := .glo "BadName") rfl)
  k_BadOrder := He.glo_ok X G (c.fact 59 (f := .glo "BadOrder") rfl)
  k_BadRule := He.glo_ok X G (c.fact 60 (f := .glo "BadRule") rfl)
  k_BadSide := He.glo_ok X G (c.fact 61 (f := .glo "BadSide") rfl)
  k_BadSize := He.glo_ok X G (c.fact 62 (f := .glo "BadSize") rfl)
  k_BadSquare := He.glo_ok X G (c.fact 63 (f := .glo "BadSquare") rfl)
  k_BadStand := He.glo_ok X G (c.fact 64 (f := .glo "BadStand") rfl)
  k_BadStep := He.glo_ok X G (c.fact 65 (f := .glo "BadStep") rfl)
  k_BadStretch := He.glo_ok X G (c.fact 66 (f := .glo "BadStretch") rfl)
  k_BadText := He.glo_ok X G (c.fact 67 (f := .glo "BadText") rfl)
  k_BadWeb := He.glo_ok X G (c.fact 68 (f := .glo "BadWeb") rfl)
  k_BadWeight := He.glo_ok X G (c.fact 69 (f := .glo "BadWeight") rfl)
  k_BookError := He.glo_ok X G (c.fact 70 (f := .glo "BookError") rfl)
  k_CoarseBook := He.glo_ok X G (c.fact 71 (f := .glo "CoarseBook") rfl)
  k_Crossing := He.glo_ok X G (c.fact 72 (f := .glo "Crossing") rfl)
  k_EmptyRange := He.glo_ok X G (c.fact 73 (f := .glo "EmptyRange") rfl)
  k_MixedModel := He.glo_ok X G (c.fact 74 (f := .glo "MixedModel") rfl)
  k_NoAnswer := He.glo_ok X G (c.fact 75 (f := .glo "NoAnswer") rfl)
  k_NoCell := He.glo_ok X G (c.fact 76 (f := .glo "NoCell") rfl)
  k_NoCut := He.glo_ok X G (c.fact 77 (f := .glo "NoCut") rfl)
  k_NoDeed := He.glo_ok X G (c.fact 78 (f := .glo "NoDeed") rfl)
  k_NoEnd := He.glo_ok X G (c.fact 79 (f := .glo "NoEnd") rfl)
  k_NoLeast := He.glo_ok X G (c.fact 80 (f := .glo "NoLeast") rfl)
  k_NoStart := He.glo_ok X G (c.fact 81 (f := .glo "NoStart") rfl)
  k_NotAnswer := He.glo_ok X G (c.fact 82 (f := .glo "NotAnswer") rfl)
  k_NotBasis := He.glo_ok X G (c.fact 83 (f := .glo "NotBasis") rfl)
  k_NotBest := He.glo_ok X G (c.fact 84 (f := .glo "NotBest") rfl)
  k_NotEntry := He.glo_ok X G (c.fact 85 (f := .glo "NotEntry") rfl)
  k_NotEven := He.glo_ok X G (c.fact 86 (f := .glo "NotEven") rfl)
  k_NotPlain := He.glo_ok X G (c.fact 87 (f := .glo "NotPlain") rfl)
  k_NotPriced := He.glo_ok X G (c.fact 88 (f := .glo "NotPriced") rfl)
  k_NotRounding := He.glo_ok X G (c.fact 89 (f := .glo "NotRounding") rfl)
  k_NotTable := He.glo_ok X G (c.fact 90 (f := .glo "NotTable") rfl)
  k_NotWhole := He.glo_ok X G (c.fact 91 (f := .glo "NotWhole") rfl)
  k_TooMany := He.glo_ok X G (c.fact 92 (f := .glo "TooMany") rfl)
  k_TooWide := He.glo_ok X G (c.fact 93 (f := .glo "TooWide") rfl)
  k_ZeroBottom := He.glo_ok X G (c.fact 94 (f := .glo "ZeroBottom") rfl)
  xc_BadText := xf_xc (exAll_at e 2 (f := .xc "BadText") rfl)
  xc_ZeroBottom := xf_xc (exAll_at e 3 (f := .xc "ZeroBottom") rfl)
  x_BadText_BadText := He.exm_ok (c.fact 97 (f := .exm "BadText" "BadText" true) rfl)
  x_BadText_BookError := He.exm_ok (c.fact 98 (f := .exm "BadText" "BookError" true) rfl)
  x_ZeroBottom_BadText := He.exm_ok (c.fact 99 (f := .exm "ZeroBottom" "BadText" false) rfl)
  x_ZeroBottom_BookError := He.exm_ok (c.fact 100 (f := .exm "ZeroBottom" "BookError" true) rfl)
  x_ZeroBottom_ZeroBottom := He.exm_ok (c.fact 101 (f := .exm "ZeroBottom" "ZeroBottom" true) rfl)
  kit_BadText_BadAhead := xf_kr (exAll_at e 4 (f := .kr "BadText" "BadAhead" false) rfl)
  kit_BadText_BadChance := xf_kr (exAll_at e 5 (f := .kr "BadText" "BadChance" false) rfl)
  kit_BadText_BadClash := xf_kr (exAll_at e 6 (f := .kr "BadText" "BadClash" false) rfl)
  kit_BadText_BadColour := xf_kr (exAll_at e 7 (f := .kr "BadText" "BadColour" false) rfl)
  kit_BadText_BadCrossing := xf_kr (exAll_at e 8 (f := .kr "BadText" "BadCrossing" false) rfl)
  kit_BadText_BadCut := xf_kr (exAll_at e 9 (f := .kr "BadText" "BadCut" false) rfl)
  kit_BadText_BadDays := xf_kr (exAll_at e 10 (f := .kr "BadText" "BadDays" false) rfl)
  kit_BadText_BadDeed := xf_kr (exAll_at e 11 (f := .kr "BadText" "BadDeed" false) rfl)
  kit_BadText_BadLine := xf_kr (exAll_at e 12 (f := .kr "BadText" "BadLine" false) rfl)
  kit_BadText_BadLot := xf_kr (exAll_at e 13 (f := .kr "BadText" "BadLot" false) rfl)
  kit_BadText_BadName := xf_kr (exAll_at e 14 (f := .kr "BadText" "BadName" false) rfl)
  kit_BadText_BadOrder := xf_kr (exAll_at e 15 (f := .kr "BadText" "BadOrder" false) rfl)
  kit_BadText_BadRule := xf_kr (exAll_at e 16 (f := .kr "BadText" "BadRule" false) rfl)
  kit_BadText_BadSide := xf_kr (exAll_at e 17 (f := .kr "BadText" "BadSide" false) rfl)
  kit_BadText_BadSize := xf_kr (exAll_at e 18 (f := .kr "BadText" "BadSize" false) rfl)
  kit_BadText_BadSquare := xf_kr (exAll_at e 19 (f := .kr "BadText" "BadSquare" false) rfl)
  kit_BadText_BadStand := xf_kr (exAll_at e 20 (f := .kr "BadText" "BadStand" false) rfl)
  kit_BadText_BadStep := xf_kr (exAll_at e 21 (f := .kr "BadText" "BadStep" false) rfl)
  kit_BadText_BadStretch := xf_kr (exAll_at e 22 (f := .kr "BadText" "BadStretch" false) rfl)
  kit_BadText_BadText := xf_kr (exAll_at e 23 (f := .kr "BadText" "BadText" true) rfl)
  kit_BadText_BadWeb := xf_kr (exAll_at e 24 (f := .kr "BadText" "BadWeb" false) rfl)
  kit_BadText_BadWeight := xf_kr (exAll_at e 25 (f := .kr "BadText" "BadWeight" false) rfl)
  kit_BadText_BookError := xf_kr (exAll_at e 26 (f := .kr "BadText" "BookError" true) rfl)
  kit_BadText_CoarseBook := xf_kr (exAll_at e 27 (f := .kr "BadText" "CoarseBook" false) rfl)
  kit_BadText_Crossing := xf_kr (exAll_at e 28 (f := .kr "BadText" "Crossing" false) rfl)
  kit_BadText_EmptyRange := xf_kr (exAll_at e 29 (f := .kr "BadText" "EmptyRange" false) rfl)
  kit_BadText_MixedModel := xf_kr (exAll_at e 30 (f := .kr "BadText" "MixedModel" false) rfl)
  kit_BadText_NoAnswer := xf_kr (exAll_at e 31 (f := .kr "BadText" "NoAnswer" false) rfl)
  kit_BadText_NoCell := xf_kr (exAll_at e 32 (f := .kr "BadText" "NoCell" false) rfl)
  kit_BadText_NoCut := xf_kr (exAll_at e 33 (f := .kr "BadText" "NoCut" false) rfl)
  kit_BadText_NoDeed := xf_kr (exAll_at e 34 (f := .kr "BadText" "NoDeed" false) rfl)
  kit_BadText_NoEnd := xf_kr (exAll_at e 35 (f := .kr "BadText" "NoEnd" false) rfl)
  kit_BadText_NoLeast := xf_kr (exAll_at e 36 (f := .kr "BadText" "NoLeast" false) rfl)
  kit_BadText_NoStart := xf_kr (exAll_at e 37 (f := .kr "BadText" "NoStart" false) rfl)
  kit_BadText_NotAnswer := xf_kr (exAll_at e 38 (f := .kr "BadText" "NotAnswer" false) rfl)
  kit_BadText_NotBasis := xf_kr (exAll_at e 39 (f := .kr "BadText" "NotBasis" false) rfl)
  kit_BadText_NotBest := xf_kr (exAll_at e 40 (f := .kr "BadText" "NotBest" false) rfl)
  kit_BadText_NotEntry := xf_kr (exAll_at e 41 (f := .kr "BadText" "NotEntry" false) rfl)
  kit_BadText_NotEven := xf_kr (exAll_at e 42 (f := .kr "BadText" "NotEven" false) rfl)
  kit_BadText_NotPlain := xf_kr (exAll_at e 43 (f := .kr "BadText" "NotPlain" false) rfl)
  kit_BadText_NotPriced := xf_kr (exAll_at e 44 (f := .kr "BadText" "NotPriced" false) rfl)
  kit_BadText_NotRounding := xf_kr (exAll_at e 45 (f := .kr "BadText" "NotRounding" false) rfl)
  kit_BadText_NotTable := xf_kr (exAll_at e 46 (f := .kr "BadText" "NotTable" false) rfl)
  kit_BadText_NotWhole := xf_kr (exAll_at e 47 (f := .kr "BadText" "NotWhole" false) rfl)
  kit_BadText_TooMany := xf_kr (exAll_at e 48 (f := .kr "BadText" "TooMany" false) rfl)
  kit_BadText_TooWide := xf_kr (exAll_at e 49 (f := .kr "BadText" "TooWide" false) rfl)
  kit_BadText_ValueError := xf_kt (exAll_at e 50 (f := .kt "BadText" "ValueError" true) rfl)
  kit_BadText_ZeroBottom := xf_kr (exAll_at e 51 (f := .kr "BadText" "ZeroBottom" false) rfl)
  kit_ZeroBottom_BadAhead := xf_kr (exAll_at e 52 (f := .kr "ZeroBottom" "BadAhead" false) rfl)
  kit_ZeroBottom_BadChance := xf_kr (exAll_at e 53 (f := .kr "ZeroBottom" "BadChance" false) rfl)
  kit_ZeroBottom_BadClash := xf_kr (exAll_at e 54 (f := .kr "ZeroBottom" "BadClash" false) rfl)
  kit_ZeroBottom_BadColour := xf_kr (exAll_at e 55 (f := .kr "ZeroBottom" "BadColour" false) rfl)
  kit_ZeroBottom_BadCrossing := xf_kr (exAll_at e 56 (f := .kr "ZeroBottom" "BadCrossing" false) rfl)
  kit_ZeroBottom_BadCut := xf_kr (exAll_at e 57 (f := .kr "ZeroBottom" "BadCut" false) rfl)
  kit_ZeroBottom_BadDays := xf_kr (exAll_at e 58 (f := .kr "ZeroBottom" "BadDays" false) rfl)
  kit_ZeroBottom_BadDeed := xf_kr (exAll_at e 59 (f := .kr "ZeroBottom" "BadDeed" false) rfl)
  kit_ZeroBottom_BadLine := xf_kr (exAll_at e 60 (f := .kr "ZeroBottom" "BadLine" false) rfl)
  kit_ZeroBottom_BadLot := xf_kr (exAll_at e 61 (f := .kr "ZeroBottom" "BadLot" false) rfl)
  kit_ZeroBottom_BadName := xf_kr (exAll_at e 62 (f := .kr "ZeroBottom" "BadName" false) rfl)
  kit_ZeroBottom_BadOrder := xf_kr (exAll_at e 63 (f := .kr "ZeroBottom" "BadOrder" false) rfl)
  kit_ZeroBottom_BadRule := xf_kr (exAll_at e 64 (f := .kr "ZeroBottom" "BadRule" false) rfl)
  kit_ZeroBottom_BadSide := xf_kr (exAll_at e 65 (f := .kr "ZeroBottom" "BadSide" false) rfl)
  kit_ZeroBottom_BadSize := xf_kr (exAll_at e 66 (f := .kr "ZeroBottom" "BadSize" false) rfl)
  kit_ZeroBottom_BadSquare := xf_kr (exAll_at e 67 (f := .kr "ZeroBottom" "BadSquare" false) rfl)
  kit_ZeroBottom_BadStand := xf_kr (exAll_at e 68 (f := .kr "ZeroBottom" "BadStand" false) rfl)
  kit_ZeroBottom_BadStep := xf_kr (exAll_at e 69 (f := .kr "ZeroBottom" "BadStep" false) rfl)
  kit_ZeroBottom_BadStretch := xf_kr (exAll_at e 70 (f := .kr "ZeroBottom" "BadStretch" false) rfl)
  kit_ZeroBottom_BadText := xf_kr (exAll_at e 71 (f := .kr "ZeroBottom" "BadText" false) rfl)
  kit_ZeroBottom_BadWeb := xf_kr (exAll_at e 72 (f := .kr "ZeroBottom" "BadWeb" false) rfl)
  kit_ZeroBottom_BadWeight := xf_kr (exAll_at e 73 (f := .kr "ZeroBottom" "BadWeight" false) rfl)
  kit_ZeroBottom_BookError := xf_kr (exAll_at e 74 (f := .kr "ZeroBottom" "BookError" true) rfl)
  kit_ZeroBottom_CoarseBook := xf_kr (exAll_at e 75 (f := .kr "ZeroBottom" "CoarseBook" false) rfl)
  kit_ZeroBottom_Crossing := xf_kr (exAll_at e 76 (f := .kr "ZeroBottom" "Crossing" false) rfl)
  kit_ZeroBottom_EmptyRange := xf_kr (exAll_at e 77 (f := .kr "ZeroBottom" "EmptyRange" false) rfl)
  kit_ZeroBottom_MixedModel := xf_kr (exAll_at e 78 (f := .kr "ZeroBottom" "MixedModel" false) rfl)
  kit_ZeroBottom_NoAnswer := xf_kr (exAll_at e 79 (f := .kr "ZeroBottom" "NoAnswer" false) rfl)
  kit_ZeroBottom_NoCell := xf_kr (exAll_at e 80 (f := .kr "ZeroBottom" "NoCell" false) rfl)
  kit_ZeroBottom_NoCut := xf_kr (exAll_at e 81 (f := .kr "ZeroBottom" "NoCut" false) rfl)
  kit_ZeroBottom_NoDeed := xf_kr (exAll_at e 82 (f := .kr "ZeroBottom" "NoDeed" false) rfl)
  kit_ZeroBottom_NoEnd := xf_kr (exAll_at e 83 (f := .kr "ZeroBottom" "NoEnd" false) rfl)
  kit_ZeroBottom_NoLeast := xf_kr (exAll_at e 84 (f := .kr "ZeroBottom" "NoLeast" false) rfl)
  kit_ZeroBottom_NoStart := xf_kr (exAll_at e 85 (f := .kr "ZeroBottom" "NoStart" false) rfl)
  kit_ZeroBottom_NotAnswer := xf_kr (exAll_at e 86 (f := .kr "ZeroBottom" "NotAnswer" false) rfl)
  kit_ZeroBottom_NotBasis := xf_kr (exAll_at e 87 (f := .kr "ZeroBottom" "NotBasis" false) rfl)
  kit_ZeroBottom_NotBest := xf_kr (exAll_at e 88 (f := .kr "ZeroBottom" "NotBest" false) rfl)
  kit_ZeroBottom_NotEntry := xf_kr (exAll_at e 89 (f := .kr "ZeroBottom" "NotEntry" false) rfl)
  kit_ZeroBottom_NotEven := xf_kr (exAll_at e 90 (f := .kr "ZeroBottom" "NotEven" false) rfl)
  kit_ZeroBottom_NotPlain := xf_kr (exAll_at e 91 (f := .kr "ZeroBottom" "NotPlain" false) rfl)
  kit_ZeroBottom_NotPriced := xf_kr (exAll_at e 92 (f := .kr "ZeroBottom" "NotPriced" false) rfl)
  kit_ZeroBottom_NotRounding := xf_kr (exAll_at e 93 (f := .kr "ZeroBottom" "NotRounding" false) rfl)
  kit_ZeroBottom_NotTable := xf_kr (exAll_at e 94 (f := .kr "ZeroBottom" "NotTable" false) rfl)
  kit_ZeroBottom_NotWhole := xf_kr (exAll_at e 95 (f := .kr "ZeroBottom" "NotWhole" false) rfl)
  kit_ZeroBottom_TooMany := xf_kr (exAll_at e 96 (f := .kr "ZeroBottom" "TooMany" false) rfl)
  kit_ZeroBottom_TooWide := xf_kr (exAll_at e 97 (f := .kr "ZeroBottom" "TooWide" false) rfl)
  kit_ZeroBottom_ValueError := xf_kt (exAll_at e 98 (f := .kt "ZeroBottom" "ValueError" true) rfl)
  kit_ZeroBottom_ZeroBottom := xf_kr (exAll_at e 99 (f := .kr "ZeroBottom" "ZeroBottom" true) rfl)
theorem facts {P : Program} {w : World} {K : PySem.W.Frag} {h : Heap} {mg : Str → Option Value} {f : Addr} (X : K.In h) (G : h.Ns mainGlobals mg) (hfa : mg ("law" : Str) = some (.ref f)) (c : He.SaysD fa fn K) (e : exAll xf K = true) (hG : ∀ ns : List Int, ns.length ≤ 63 → G_law [.scr ns] = Pv.okD (.bl true)) :
    ∃ fd : FuncData, (∀ (s : Shared) (v : Value), BindsTo s fd ⟨[v], []⟩ [("script", v)]) ∧ ∀ base : Heap, K.In base → base.Ns mainGlobals mg → FnOk P w K mg base CX0 5 f fd ["script"] (spLaw K 63) := by
  obtain ⟨fd, F⟩ := c.def_ 35 (d := d88) rfl
  have e0 := hfa.symm.trans (He.glo_ok X G (c.fact 35 (f := .glo "law") rfl))
  cases e0
  have b := FunD.bindsA (ps := ["script"]) F fun _ _ _ _ _ _ us hl => match us, hl with | [_], _ => rfl
  refine ⟨fd, fun s v => b s [v] rfl, fun base hB gB => ?_⟩
  exact law_end F (okf_law F (tab X G c e)) hG
end Hd
open PySem PySem.W PySem.Calls PyProof.Rows
theorem PySem.Challenge.cw_stepscounted_k00_exact_numbers_holds : PySem.Challenge.rw_stepscounted_k00_exact_numbers.Holds := by
  w_on; o_law
  refine HandSHeadRun.head_imp (r := OpenLaw.row PySem.Challenge.rw_stepscounted_k00_exact_numbers) (q := view (OpenLaw.row PySem.Challenge.rw_stepscounted_k00_exact_numbers).prog [0, 88]) (H := Hd.hk) (ob := Hd.ob) (M := 20000) (loose := Hd.nm) (d := HandSHeadRun.topDef (OpenLaw.row PySem.Challenge.rw_stepscounted_k00_exact_numbers).prog 88) (kwd := []) Hd.ob_eq
    Hd.run (by kernel_rfl) (by kernel_rfl) (by kernel_rfl) (by rfl) (by first | assumption | decide +kernel) (by decide +kernel) ⟨rfl, rfl, rfl, rfl, rfl, by decide +kernel⟩ ?hw ?hc
  case hw => w_witness2
  case hc =>
    refine L2.walk_ofE (l := PySem.Challenge.rw_stepscounted_k00_exact_numbers) (n := 63) (k := 5) (x := "script") (CX := L2.CX0) rfl (by decide) (by kernel_rfl) ⟨rfl, by decide, by decide⟩ ?F (fun _ _ _ _ z => z)
    intro w mg fa h Y G hmg0
    obtain ⟨K, KX, c, e⟩ := Y
    have hmg : mg ("law" : PySem.Str) = some (.ref fa) := by
      have e : (HandSHeadRun.topDef (OpenLaw.row PySem.Challenge.rw_stepscounted_k00_exact_numbers).prog 88).name = ("law" : PySem.Str) := by kernel_rfl
      rw [← e]
      exact hmg0
    obtain ⟨fd, hb, hF⟩ := Hd.facts (P := (PySem.Challenge.rw_stepscounted_k00_exact_numbers).prog) (w := w) KX G hmg c e Lw.law_true
    exact ⟨K, fd, Pw.spLaw K 63, KX, hb, fun H a ns hl _ hS => ⟨a, ns, rfl, hl, hS, fun _ => rfl⟩, hF⟩
