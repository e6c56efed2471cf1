import PyProof.Rows.All
import Wide.All
import OpenK.AllK
import Wide.FinOn
import HandS.ForMost
import HandS.Exc
import HandS.TupAny
import HandS.Style
import HandS.IsInst
import HandS.Wide
import HandS.CallSlots
import HandS.Flow
import HandS.Defaults
import HandS.Head0
import HandS.Head1
import HandS.Head2
import HandS.HeadEnd
import HandS.HeadHook1
import HandS.HeadHook2
import HandS.Words
import KE.KStateDown
import Lean
import PySem.Challenge.RW_sitebooks_k01_names
set_option Elab.async false
set_option linter.all false
set_option maxRecDepth 100000
/-! Dp, part 1: deep values, the small language, its evaluator. -/
namespace Dp
open PySem L2

/-- deep values -/
inductive P where
  | non
  | bl (b : Bool)
  | int (i : Int)
  | str (s : Str)
  | ty (n : String)
  | cls (c : Nat)
  | tup (l : List P)
  | lst (l : List P)
  | fro (l : List P)
  | dic (ks vs : List P)
  | obj (c : Nat) (ns : List Nat) (vs : List P)

/-- a value of a name: deep, or the cell of something that may change -/
inductive D where
  | p (x : P)
  | r (c : Nat)

inductive Cl where
  | lst (l : List P)
  | ins (c : Nat) (ns : List Nat) (vs : List P)
  | dead

abbrev So := List Cl
abbrev En := List (Option D)

inductive Ou (α : Type) where
  | ok (a : α) (st : So)
  | ex (c : Nat) (ns : List Nat) (vs : List P) (st : So)
  | bad

@[simp] def Ou.bind {α β : Type} (x : Ou α) (f : α → So → Ou β) : Ou β :=
  match x with
  | .ok a st => f a st
  | .ex c ns vs st => .ex c ns vs st
  | .bad => .bad

/-- nothing may be raised here -/
@[simp] def Ou.noex {α : Type} (x : Ou α) : Ou α :=
  match x with
  | .ok a st => .ok a st
  | _ => .bad

inductive O2 where
  | add | sub | mul | fdv | mod | pow | eq | ne | lt | le | gt | ge | isin | nin | is_ | isn

inductive Pr where
  | op (o : O2)
  | neg | ix
  | sl (lo hi : Bool)
  | rev
  | tup | lst | dic
  | len | int | str | repr | abs | min | max | all | any | sum | list | tuple | isi | join | dvm

inductive Sel where
  | a (i : Nat)
  | d (x : P)

inductive Tg where
  | v (i : Nat)
  | t (l : List Tg)

inductive It (ε : Type) where
  | e (x : ε)
  | rg (a : ε)
  | rg2 (a b : ε)
  | en (a : ε)

inductive Ex where
  | va (i : Nat)
  | co (x : P)
  | pr (f : Pr) (es : List Ex)
  | ce (e : Ex)
  | an (a b : Ex)
  | or (a b : Ex)
  | no (a : Ex)
  | if_ (c a b : Ex)
  | ch (o1 o2 : O2) (a b c : Ex)
  | s3 (a b c : Ex)
  | me (p : Pr) (n : String) (o : Ex) (es : List Ex)
  | fc (f : Nat) (sel : List Sel) (es : List Ex)
  | mk (c : Nat) (sel : List Sel) (es : List Ex)
  | mt (m : Nat) (sel : List Sel) (o : Ex) (es : List Ex)
  | fd (a : Nat) (o : Ex)
  | d1 (k v : Ex)
  | lc (t : Tg) (own : List Nat) (k : Nat) (a b : Ex) (cs : List Ex) (e : Ex)

inductive Sm where
  | ex (e : Ex)
  | as (i : Nat) (e : Ex)
  | at (t : Tg) (e : Ex)
  | ap (is : List Nat) (es : List Ex)
  | sx (o i e : Ex)
  | sa (o : Ex) (a : Nat) (e : Ex)
  | ag (i : Nat) (o : O2) (e : Ex)
  | app (o e : Ex)
  | if_ (c : Ex) (a b : List Sm)
  | for_ (t : Tg) (k : Nat) (a b : Ex) (l : List Sm)
  | wh (c : Ex) (l : List Sm)
  | rt (e : Ex)
  | rn
  | br
  | ct
  | ps
  | ra (c : Nat) (sel : List Sel) (es : List Ex)
  | fz (i : Nat)

/-- what a statement does -/
inductive SO where
  | nx (ρ : En) (st : So)
  | rt (d : D) (st : So)
  | bk (ρ : En) (st : So)
  | ct (ρ : En) (st : So)
  | ex (c : Nat) (ns : List Nat) (vs : List P) (ρ : En) (st : So)
  | bad

/-- the classes: below C stand its bases; fn: a method's place in the table of defs -/
structure Tab where
  sub : Nat → Nat → Bool
  mth : Nat → Nat → Option Nat
  ini : Nat → Option Nat
  wf : Nat

/-! ### primitives -/
def big : Nat := 16000000

def ixI {α : Type} (xs : List α) (i : Int) : Option α := L2.atI xs i
def cut {α : Type} (xs : List α) (lo hi : Option Int) : List α :=
  (xs.drop (HT.sIx xs.length 0 lo)).take (HT.sIx xs.length xs.length hi - HT.sIx xs.length 0 lo)

mutual
def toD : P → Option PyData
  | .non => some .none
  | .bl b => some (.bool b)
  | .int i => some (.int i)
  | .str s => some (.str s)
  | .tup l => (toDs l).map .tuple
  | .lst l => (toDs l).map .list
  | _ => none
def toDs : List P → Option (List PyData)
  | [] => some []
  | x :: r => match toD x, toDs r with
    | some d, some ds => some (d :: ds)
    | _, _ => none
end

def eqP (a b : P) : Option Bool :=
  match toD a, toD b with
  | some d, some e => if SeqAt.shaped d && SeqAt.shaped e then some (PyData.eqv d e) else none
  | _, _ => none

def addP : P → P → Option P
  | .int i, .int j => some (.int (i + j))
  | .str s, .str t => if s.length + t.length ≤ big then some (.str (s ++ t)) else none
  | .lst s, .lst t => if s.length + t.length ≤ big then some (.lst (s ++ t)) else none
  | .tup s, .tup t => if s.length + t.length ≤ big then some (.tup (s ++ t)) else none
  | _, _ => none
def intP (f : Int → Int → Option P) : P → P → Option P
  | .int i, .int j => f i j
  | _, _ => none
def mulP : P → P → Option P
  | .int i, .int j => if i.natAbs < 2 ^ 64 ∨ j.natAbs < 2 ^ 64 then some (.int (i * j)) else none
  | .lst s, .int k => if 0 ≤ k ∧ k ≤ 1000 ∧ s.length ≤ 1000 then some (.lst (List.replicate k.toNat s).flatten) else none
  | _, _ => none
def strOf : P → Option Str
  | .str s => some s
  | _ => none
def inP : P → P → Option Bool
  | .str s, .str t => match s.cps.toList with
    | [c] => some (decide (c ∈ t.cps.toList))
    | _ => none
  | .str s, .lst l => if l.all (fun y => (strOf y).isSome) then some (l.any fun y => decide (strOf y = some s)) else none
  | .str s, .tup l => if l.all (fun y => (strOf y).isSome) then some (l.any fun y => decide (strOf y = some s)) else none
  | _, _ => none
def isNon : P → Bool
  | .non => true
  | _ => false

def op2 : O2 → P → P → Option P
  | .add, a, b => addP a b
  | .sub, a, b => intP (fun i j => some (.int (i - j))) a b
  | .mul, a, b => mulP a b
  | .fdv, a, b => intP (fun i j => if 0 < j ∧ j < 2 ^ 200 then some (.int (i / j)) else none) a b
  | .mod, a, b => intP (fun i j => if 0 < j then some (.int (i % j)) else none) a b
  | .pow, a, b => intP (fun i j => if 0 ≤ j ∧ j ≤ 1000 ∧ i.natAbs < 2 ^ 64 then some (.int (i ^ j.toNat)) else none) a b
  | .eq, a, b => (eqP a b).map .bl
  | .ne, a, b => (eqP a b).map fun k => .bl (!k)
  | .lt, a, b => intP (fun i j => some (.bl (decide (i < j)))) a b
  | .le, a, b => intP (fun i j => some (.bl (decide (i ≤ j)))) a b
  | .gt, a, b => intP (fun i j => some (.bl (decide (j < i)))) a b
  | .ge, a, b => intP (fun i j => some (.bl (decide (j ≤ i)))) a b
  | .isin, a, b => (inP a b).map .bl
  | .nin, a, b => (inP a b).map fun k => .bl (!k)
  | .is_, a, b => if isNon b then some (.bl (isNon a)) else none
  | .isn, a, b => if isNon b then some (.bl (!isNon a)) else none

def truP : P → Option Bool
  | .non => some false
  | .bl b => some b
  | .int i => some (i != 0)
  | .str s => if s.length ≤ big then some (s.length != 0) else none
  | .tup l => some (!l.isEmpty)
  | .lst l => some (!l.isEmpty)
  | .dic ks _ => some (!ks.isEmpty)
  | _ => none

/-- the built-in type's name -/
def tyP : P → Option String
  | .non => some "NoneType"
  | .bl _ => some "bool"
  | .int _ => some "int"
  | .str _ => some "str"
  | .tup _ => some "tuple"
  | .lst _ => some "list"
  | .dic _ _ => some "dict"
  | _ => none

def tyNames : List String := ["NoneType", "bool", "int", "str", "tuple", "list", "dict"]
def isiTy (t n : String) : Option Bool := if n ∈ tyNames then some (t == n || (t == "bool" && n == "int")) else none

def allBl : List P → Option (List Bool)
  | [] => some []
  | .bl b :: r => (allBl r).map (b :: ·)
  | _ :: _ => none
def allInt : List P → Option (List Int)
  | [] => some []
  | .int b :: r => (allInt r).map (b :: ·)
  | _ :: _ => none
def allStr : List P → Option (List Str)
  | [] => some []
  | .str b :: r => (allStr r).map (b :: ·)
  | _ :: _ => none

def un (f : P → Option P) : List P → Option P
  | [a] => f a
  | _ => none
def bin (f : P → P → Option P) : List P → Option P
  | [a, b] => f a b
  | _ => none

def negP : P → Option P
  | .int i => some (.int (-i))
  | _ => none
def ixP : P → P → Option P
  | .lst l, .int i => ixI l i
  | .tup l, .int i => ixI l i
  | .fro l, .int i => ixI l i
  | .str s, .int i => if s.length ≤ big then (ixI s.cps.toList i).map fun c => .str ⟨#[c]⟩ else none
  | _, _ => none
def cutP (x : P) (lo hi : Option Int) : Option P :=
  match x with
  | .str s => if s.length ≤ big then some (.str ⟨(cut s.cps.toList lo hi).toArray⟩) else none
  | .lst l => some (.lst (cut l lo hi))
  | .fro l => some (.lst (cut l lo hi))
  | .tup l => some (.tup (cut l lo hi))
  | _ => none
def slP : Bool → Bool → List P → Option P
  | true, false, [x, .int i] => cutP x (some i) none
  | false, true, [x, .int j] => cutP x none (some j)
  | false, false, [x] => cutP x none none
  | _, _, _ => none
def revP : P → Option P
  | .lst l => some (.lst l.reverse)
  | _ => none
def tupP (l : List P) : Option P := if l.length ≤ 1000 then some (.tup l) else none
def lstP (l : List P) : Option P := if l.length ≤ 1000 then some (.lst l) else none
def dicP : List P → Option P
  | [] => some (.dic [] [])
  | _ => none
def lenP : P → Option P
  | .str s => if s.length ≤ big then some (.int s.length) else none
  | .lst l => some (.int l.length)
  | .fro l => some (.int l.length)
  | .tup l => some (.int l.length)
  | _ => none
def toInt : P → Option P
  | .int i => some (.int i)
  | _ => none
def shw (d : PyData) : Option P :=
  if d.showable && decide (d.depth ≤ 40) && decide (d.shown.length ≤ big) && !d.hasDict then some (.str d.shown) else none
def reprP : P → Option P
  | .lst l => (toD (.lst l)).bind shw
  | .tup l => (toD (.tup l)).bind shw
  | _ => none
def absP : P → Option P
  | .int i => some (.int (if i < 0 then -i else i))
  | _ => none
def minP : P → P → Option P := intP fun i j => some (.int (if j < i then j else i))
def maxP : P → P → Option P := intP fun i j => some (.int (if j > i then j else i))
def allP : P → Option P
  | .lst l => (allBl l).map fun bs => .bl (bs.all id)
  | _ => none
def anyP : P → Option P
  | .lst l => (allBl l).map fun bs => .bl (bs.any id)
  | _ => none
def listP : P → Option P
  | .lst l => some (.lst l)
  | .tup l => some (.lst l)
  | .fro l => some (.lst l)
  | _ => none
def tupleP : P → Option P
  | .lst l => some (.tup l)
  | .tup l => some (.tup l)
  | _ => none
def isiP : P → P → Option P
  | x, .ty n => (tyP x).bind fun t => (isiTy t n).map .bl
  | _, _ => none
def joinP : P → P → Option P
  | .str s, .lst l => (allStr l).bind fun ss => if (ss.map (·.length)).sum + ss.length * s.length ≤ big then some (.str (Txt.join s ss)) else none
  | _, _ => none
def dvmP : P → P → Option P := intP fun i j => if 0 < j ∧ j < 2 ^ 29 then some (.tup [.int (i / j), .int (i % j)]) else none

def prim (T : Tab) : Pr → List P → Option P
  | .op o => bin (op2 o)
  | .neg => un negP
  | .ix => bin ixP
  | .sl lo hi => slP lo hi
  | .rev => un revP
  | .tup => tupP
  | .lst => lstP
  | .dic => dicP
  | .len => un lenP
  | .int => un toInt
  | .repr => un reprP
  | .abs => un absP
  | .min => bin minP
  | .max => bin maxP
  | .all => un allP
  | .any => un anyP
  | .list => un listP
  | .tuple => un tupleP
  | .isi => bin isiP
  | .join => bin joinP
  | .dvm => bin dvmP
  | _ => fun _ => none

/-- primitives that put their arguments into something -/
def Pr.keeps : Pr → Bool
  | .tup | .lst | .dic => true
  | _ => false

/-- what is read behind a value -/
def view (st : So) : D → Option P
  | .p x => some x
  | .r c => match st[c]? with
    | some (.lst l) => some (.lst l)
    | some (.ins c ns vs) => some (.obj c ns vs)
    | _ => none
def views (st : So) : List D → Option (List P)
  | [] => some []
  | d :: r => match view st d, views st r with
    | some x, some xs => some (x :: xs)
    | _, _ => none
def pures : List D → Option (List P)
  | [] => some []
  | .p x :: r => (pures r).map (x :: ·)
  | .r _ :: _ => none

def doPr (T : Tab) (f : Pr) (ds : List D) (st : So) : Ou D :=
  match (if f.keeps then pures ds else views st ds) with
  | some ps => match prim T f ps with
    | some x => .ok (.p x) st
    | none => .bad
  | none => .bad

/-! ### calls: the cells that are handed over are the callee's whole store -/
def refs : List D → List Nat
  | [] => []
  | .r c :: r => c :: refs r
  | .p _ :: r => refs r
/-- the same values, their cells by place -/
def renum : Nat → List D → List D
  | _, [] => []
  | n, .r _ :: r => .r n :: renum (n + 1) r
  | n, .p x :: r => .p x :: renum n r
def getAll (st : So) : List Nat → Option So
  | [] => some []
  | c :: r => match st[c]?, getAll st r with
    | some .dead, _ => none
    | some x, some xs => some (x :: xs)
    | _, _ => none
def putAll {α : Type} (st : List α) : List Nat → List α → List α
  | [], _ => st
  | _ :: _, [] => st
  | c :: r, x :: xs => putAll (st.set c x) r xs

abbrev Cf := Nat → List D → So → Ou D

def back (rs : List Nat) (st : So) : Ou D → Ou D
  | .ok (.p x) st1 => .ok (.p x) (putAll st rs st1)
  | .ok (.r j) st1 => match rs[j]? with
    | some c => .ok (.r c) (putAll st rs st1)
    | none => match st1[j]? with
      | some .dead => .bad
      | some x => .ok (.r st.length) (putAll st rs st1 ++ [x])
      | none => .bad
  | .ex c ns vs st1 => .ex c ns vs (putAll st rs st1)
  | .bad => .bad
def callD (cf : Cf) (f : Nat) (ds : List D) (st : So) : Ou D :=
  let rs := refs ds
  if rs.Nodup then
    match getAll st rs with
    | some lo => back rs st (cf f (renum 0 ds) lo)
    | none => .bad
  else .bad

def sels (ds : List D) : List Sel → Option (List D)
  | [] => some []
  | .a i :: r => match ds[i]?, sels ds r with
    | some d, some l => some (d :: l)
    | _, _ => none
  | .d x :: r => (sels ds r).map (.p x :: ·)

/-- a new object: __init__ over it, then it is deep -/
def makeD (T : Tab) (cf : Cf) (c : Nat) (ds : List D) (st : So) : Ou D :=
  let rs := refs ds
  match T.ini c with
  | none => .bad
  | some f =>
    if rs.Nodup then
      match getAll st rs with
      | some lo => match cf f (.r 0 :: renum 1 ds) (.ins c [] [] :: lo) with
        | .ok (.p .non) (.ins c' ns vs :: st1) => .ok (.p (.obj c' ns vs)) (putAll st rs st1)
        | .ex c' ns vs (_ :: st1) => .ex c' ns vs (putAll st rs st1)
        | _ => .bad
      | none => .bad
    else .bad

def clsOf (st : So) : D → Option Nat
  | .p (.obj c _ _) => some c
  | .r j => match st[j]? with
    | some (.ins c _ _) => some c
    | _ => none
  | _ => none

def fld (a : Nat) : List Nat → List P → Option P
  | n :: ns, v :: vs => if n = a then some v else fld a ns vs
  | _, _ => none
def setFld (a : Nat) (x : P) : List Nat → List P → List Nat × List P
  | n :: ns, v :: vs => if n = a then (n :: ns, x :: vs) else ((n :: (setFld a x ns vs).1), (v :: (setFld a x ns vs).2))
  | _, _ => ([a], [x])

/-! ### targets, what is walked -/
mutual
def asg : Tg → P → En → Option En
  | .v i, x, ρ => if i < ρ.length then some (ρ.set i (some (.p x))) else none
  | .t l, .tup xs, ρ => asgs l xs ρ
  | .t _, _, _ => none
def asgs : List Tg → List P → En → Option En
  | [], [], ρ => some ρ
  | t :: r, x :: xs, ρ => match asg t x ρ with
    | some ρ1 => asgs r xs ρ1
    | none => none
  | _, _, _ => none
end

def rgI (a : Int) : Nat → List P
  | 0 => []
  | n + 1 => .int a :: rgI (a + 1) n

def enI : Int → List P → List P
  | _, [] => []
  | i, x :: r => .tup [.int i, x] :: enI (i + 1) r

/-- k: 0 a value's own items, 1 range(a), 2 range(a, b), 3 enumerate -/
def items : Nat → P → P → Option (List P)
  | 0, .lst l, _ => some l
  | 0, .tup l, _ => some l
  | 0, .fro l, _ => some l
  | 0, .str s, _ => some (s.cps.toList.map fun c => .str ⟨#[c]⟩)
  | 1, .int n, _ => if -(2 ^ 40) < n ∧ n < 2 ^ 40 then some (rgI 0 n.toNat) else none
  | 2, .int a, .int b => if -(2 ^ 40) < a ∧ a < 2 ^ 40 ∧ -(2 ^ 40) < b ∧ b < 2 ^ 40 then some (rgI a (b - a).toNat) else none
  | 3, .lst l, _ => some (enI 0 l)
  | _, _, _ => none

/-! ### the evaluator -/
def itF (k : Nat) (d e : D) (st : So) : Ou (List P) :=
  match d, e with
  | .p p, .p q => match items k p q with
    | some l => if l.length ≤ big then .ok l st else .bad
    | none => .bad
  | _, _ => .bad
def itr (k : Nat) (x : Ou D) (y : So → Ou D) : Ou (List P) := x.bind fun d st1 => (y st1).bind fun e st2 => itF k d e st2
/-- a comprehension's own names are new -/
def wip (ρ : En) : List Nat → En
  | [] => ρ
  | i :: r => (wip ρ r).set i none
def lcL (bd : P → So → Ou (Option P)) : List P → List P → So → Ou D
  | [], acc, st => .ok (.p (.lst acc)) st
  | x :: r, acc, st => match bd x st with
    | .ok (some y) st1 => lcL bd r (acc ++ [y]) st1
    | .ok none st1 => lcL bd r acc st1
    | _ => .bad

def d1F (d e : D) (st : So) : Ou D :=
  match d, e with
  | .p (.str s), .p v => .ok (.p (.dic [.str s] [v])) st
  | _, _ => .bad

mutual
def evE (T : Tab) (cf : Cf) : Ex → En → So → Ou D
  | .va i, ρ, st => match ρ[i]? with
    | some (some d) => .ok d st
    | _ => .bad
  | .co x, _, st => .ok (.p x) st
  | .pr f es, ρ, st => (evEs T cf es ρ st).bind fun ds st1 => doPr T f ds st1
  | .ce e, ρ, st => (evE T cf e ρ st).bind fun d st1 => match d with
    | .p (.lst l) => .ok (.r st1.length) (st1 ++ [.lst l])
    | _ => .bad
  | .an a b, ρ, st => (evE T cf a ρ st).bind fun d st1 => match (view st1 d).bind truP with
    | some true => evE T cf b ρ st1
    | some false => .ok d st1
    | none => .bad
  | .or a b, ρ, st => (evE T cf a ρ st).bind fun d st1 => match (view st1 d).bind truP with
    | some true => .ok d st1
    | some false => evE T cf b ρ st1
    | none => .bad
  | .no a, ρ, st => (evE T cf a ρ st).bind fun d st1 => match (view st1 d).bind truP with
    | some b => .ok (.p (.bl (!b))) st1
    | none => .bad
  | .if_ c a b, ρ, st => (evE T cf c ρ st).bind fun d st1 => match (view st1 d).bind truP with
    | some true => evE T cf a ρ st1
    | some false => evE T cf b ρ st1
    | none => .bad
  | .ch o1 o2 a b c, ρ, st => (evE T cf a ρ st).bind fun x st1 => (evE T cf b ρ st1).bind fun y st2 => (doPr T (.op o1) [x, y] st2).bind fun k st3 => match k with
    | .p (.bl true) => (evE T cf c ρ st3).bind fun z st4 => doPr T (.op o2) [y, z] st4
    | .p (.bl false) => .ok (.p (.bl false)) st3
    | _ => .bad
  | .s3 a b c, ρ, st => (evE T cf a ρ st).bind fun x st1 => (evE T cf b ρ st1).bind fun y st2 => match y with
    | .p (.int i) => (evE T cf c ρ st2).bind fun z st3 => match z with
      | .p (.int j) => match (view st3 x).bind fun v => cutP v (some i) (some j) with
        | some r => .ok (.p r) st3
        | none => .bad
      | _ => .bad
    | _ => .bad
  | .me p n o es, ρ, st => (evE T cf o ρ st).bind fun x st1 => if (view st1 x).bind tyP = some n then (evEs T cf es ρ st1).bind fun ds st2 => doPr T p (x :: ds) st2 else .bad
  | .fc f sel es, ρ, st => (evEs T cf es ρ st).bind fun ds st1 => match sels ds sel with
    | some as => callD cf f as st1
    | none => .bad
  | .mk c sel es, ρ, st => (evEs T cf es ρ st).bind fun ds st1 => match sels ds sel with
    | some as => makeD T cf c as st1
    | none => .bad
  | .mt m sel o es, ρ, st => (evE T cf o ρ st).bind fun d st1 => match clsOf st1 d with
    | some c => match T.mth m c with
      | some f => (evEs T cf es ρ st1).bind fun ds st2 => match sels ds sel with
        | some as => callD cf f (d :: as) st2
        | none => .bad
      | none => .bad
    | none => .bad
  | .fd a o, ρ, st => (evE T cf o ρ st).bind fun d st1 => match view st1 d with
    | some (.obj _ ns vs) => match fld a ns vs with
      | some x => .ok (.p x) st1
      | none => .bad
    | _ => .bad
  | .d1 a b, ρ, st => (evE T cf a ρ st).noex.bind fun d st1 => (evE T cf b ρ st1).noex.bind fun e st2 => d1F d e st2
  | .lc t own k a b cs e, ρ, st => (itr k (evE T cf a ρ st) fun st1 => evE T cf b ρ st1).bind fun l st2 => lcL (fun v st3 => match asg t v (wip ρ own) with
      | some ρ1 => (evC T cf cs ρ1 st3).bind fun c st4 => if c then (evE T cf e ρ1 st4).bind (fun d st5 => match d with
          | .p z => .ok (some z) st5
          | _ => .bad) else .ok none st4
      | none => .bad) l [] st2
def evEs (T : Tab) (cf : Cf) : List Ex → En → So → Ou (List D)
  | [], _, st => .ok [] st
  | e :: r, ρ, st => (evE T cf e ρ st).bind fun d st1 => (evEs T cf r ρ st1).bind fun ds st2 => .ok (d :: ds) st2
/-- the ifs of a comprehension -/
def evC (T : Tab) (cf : Cf) : List Ex → En → So → Ou Bool
  | [], _, st => .ok true st
  | e :: r, ρ, st => (evE T cf e ρ st).bind fun d st1 => match (view st1 d).bind truP with
    | some true => evC T cf r ρ st1
    | some false => .ok false st1
    | none => .bad
end

def evT (T : Tab) (cf : Cf) (e : Ex) (ρ : En) (st : So) : Ou Bool := (evE T cf e ρ st).bind fun d st1 => match (view st1 d).bind truP with
  | some b => .ok b st1
  | none => .bad

@[simp] def Ou.to {α : Type} (ρ : En) (x : Ou α) (f : α → So → SO) : SO :=
  match x with
  | .ok a st => f a st
  | .ex c ns vs st => .ex c ns vs ρ st
  | .bad => .bad

def forL (bd : P → En → So → SO) : List P → En → So → SO
  | [], ρ, st => .nx ρ st
  | x :: r, ρ, st => match bd x ρ st with
    | .nx ρ1 st1 => forL bd r ρ1 st1
    | .ct ρ1 st1 => forL bd r ρ1 st1
    | .bk ρ1 st1 => .nx ρ1 st1
    | .rt d st1 => .rt d st1
    | .ex c ns vs ρ1 st1 => .ex c ns vs ρ1 st1
    | .bad => .bad
def whL (c : En → So → Ou Bool) (bd : En → So → SO) : Nat → En → So → SO
  | 0, _, _ => .bad
  | n + 1, ρ, st => Ou.to ρ (c ρ st) fun b st1 => if b then
      (match bd ρ st1 with
      | .nx ρ1 st2 => whL c bd n ρ1 st2
      | .ct ρ1 st2 => whL c bd n ρ1 st2
      | .bk ρ1 st2 => .nx ρ1 st2
      | .rt d st2 => .rt d st2
      | .ex c ns vs ρ2 st2 => .ex c ns vs ρ2 st2
      | .bad => .bad) else .nx ρ st1

def setAll : List Nat → List D → En → Option En
  | [], [], ρ => some ρ
  | i :: r, d :: ds, ρ => if i < ρ.length then setAll r ds (ρ.set i (some d)) else none
  | _, _, _ => none

def isLs (st : So) : D → Bool
  | .r c => match st[c]? with
    | some (.lst _) => true
    | _ => false
  | _ => false
def apF (ρ : En) (d v : D) (st : So) : SO :=
  match d, v with
  | .r c, .p x => match st[c]? with
    | some (.lst l) => if l.length ≤ big then .nx ρ (st.set c (.lst (l ++ [x]))) else .bad
    | _ => .bad
  | _, _ => .bad
def sxF (ρ : En) (v d k : D) (st : So) : SO :=
  match v, d, k with
  | .p x, .r c, .p (.int j) => match st[c]? with
    | some (.lst l) => if 0 ≤ j ∧ j < l.length then .nx ρ (st.set c (.lst (l.set j.toNat x))) else .bad
    | _ => .bad
  | _, _, _ => .bad
def saF (ρ : En) (a : Nat) (v d : D) (st : So) : SO :=
  match v, d with
  | .p x, .r c => match st[c]? with
    | some (.ins k ns vs) => if ns.length < 500 then .nx ρ (st.set c (.ins k (setFld a x ns vs).1 (setFld a x ns vs).2)) else .bad
    | _ => .bad
  | _, _ => .bad

mutual
def evS (T : Tab) (cf : Cf) : Sm → En → So → SO
  | .ex e, ρ, st => Ou.to ρ (evE T cf e ρ st) fun _ st1 => .nx ρ st1
  | .as i e, ρ, st => Ou.to ρ (evE T cf e ρ st) fun d st1 => if i < ρ.length then .nx (ρ.set i (some d)) st1 else .bad
  | .at t e, ρ, st => Ou.to ρ (evE T cf e ρ st) fun d st1 => match d with
    | .p x => match asg t x ρ with
      | some ρ1 => .nx ρ1 st1
      | none => .bad
    | _ => .bad
  | .ap is es, ρ, st => Ou.to ρ (evEs T cf es ρ st) fun ds st1 => match setAll is ds ρ with
    | some ρ1 => .nx ρ1 st1
    | none => .bad
  | .sx o i e, ρ, st => Ou.to ρ (evE T cf e ρ st) fun v st1 => Ou.to ρ (evE T cf o ρ st1) fun d st2 => Ou.to ρ (evE T cf i ρ st2) fun k st3 => sxF ρ v d k st3
  | .sa o a e, ρ, st => Ou.to ρ (evE T cf e ρ st) fun v st1 => Ou.to ρ (evE T cf o ρ st1) fun d st2 => saF ρ a v d st2
  | .ag i o e, ρ, st => match ρ[i]? with
    | some (some (.p x)) => Ou.to ρ (evE T cf e ρ st) fun d st1 => match d with
      | .p y => match x, y with
        | .int _, .int _ => match op2 o x y with
          | some z => .nx (ρ.set i (some (.p z))) st1
          | none => .bad
        | _, _ => .bad
      | _ => .bad
    | _ => .bad
  | .app o e, ρ, st => Ou.to ρ (evE T cf o ρ st) fun d st1 => if isLs st1 d then Ou.to ρ (evE T cf e ρ st1) fun v st2 => apF ρ d v st2 else .bad
  | .if_ c a b, ρ, st => Ou.to ρ (evT T cf c ρ st) fun k st1 => if k then evB T cf a ρ st1 else evB T cf b ρ st1
  | .for_ t k a b l, ρ, st => Ou.to ρ (itr k (evE T cf a ρ st) fun st1 => evE T cf b ρ st1) fun xs st2 => forL (fun v ρ1 st3 => match asg t v ρ1 with
      | some ρ2 => evB T cf l ρ2 st3
      | none => .bad) xs ρ st2
  | .wh c l, ρ, st => whL (evT T cf c) (evB T cf l) T.wf ρ st
  | .rt e, ρ, st => Ou.to ρ (evE T cf e ρ st) fun d st1 => .rt d st1
  | .rn, _, st => .rt (.p .non) st
  | .br, ρ, st => .bk ρ st
  | .ct, ρ, st => .ct ρ st
  | .ps, ρ, st => .nx ρ st
  | .ra _ _ _, _, _ => .bad
  | .fz i, ρ, st => match ρ[i]? with
    | some (some (.r c)) => match st[c]? with
      | some (.lst l) => .nx (ρ.set i (some (.p (.lst l)))) (st.set c .dead)
      | _ => .bad
    | some (some (.p x)) => .nx ρ st
    | _ => .bad
def evB (T : Tab) (cf : Cf) : List Sm → En → So → SO
  | [], ρ, st => .nx ρ st
  | s :: r, ρ, st => match evS T cf s ρ st with
    | .nx ρ1 st1 => evB T cf r ρ1 st1
    | o => o
end

structure Fd where
  np : Nat
  nl : Nat
  body : List Sm

def runF (T : Tab) (cf : Cf) (f : Fd) (ds : List D) (st : So) : Ou D :=
  if ds.length = f.np then
    match evB T cf f.body (ds.map some ++ List.replicate (f.nl - f.np) none) st with
    | .nx _ st1 => .ok (.p .non) st1
    | .rt d st1 => .ok d st1
    | .ex c ns vs _ st1 => .ex c ns vs st1
    | _ => .bad
  else .bad

def callF (T : Tab) (fs : List Fd) : Nat → Cf
  | 0, _, _, _ => .bad
  | n + 1, f, ds, st => match fs[f]? with
    | some d => runF T (callF T fs n) d ds st
    | none => .bad
end Dp
set_option Elab.async false
set_option linter.all false
set_option maxRecDepth 100000
/-! Dp, part 2: how deep values stand in the abstract heap; how states grow. -/
namespace Dp
open PySem L2

/-- what the text's names are: K the written part, cad the classes, an the attributes' names (na of them) -/
structure Gx where
  K : PySem.W.Frag
  cad : Nat → Addr
  an : Nat → Str
  na : Nat

def Gx.fs (G : Gx) (ns : List Nat) (vs : List V) : List (Str × V) := (ns.map G.an).zip vs

/-- a tuple of the written part -/
def TupK (K : PySem.W.Frag) (a : Addr) (xs : List V) : Prop :=
  ∃ (o : Obj) (its : Array Value) (n : Nat), K.lookup a = some o ∧ o.cls = .type "tuple" ∧ o.data = .seq its n ∧ its.size ≤ sizeLine ∧ Vals xs its.toList

def keyP : Key → P
  | .inl i => .int i
  | .inr s => .str s

/-- a list of the written part -/
def LstK (K : PySem.W.Frag) (a : Addr) (xs : List V) : Prop :=
  ∃ (o : Obj) (its : Array Value) (n : Nat), K.lookup a = some o ∧ o.cls = .type "list" ∧ o.dict = none ∧ o.data = .seq its n ∧ its.size ≤ sizeLine ∧ Vals xs its.toList
mutual
def RP (G : Gx) (av : Addr → Prop) (H : Hp) : P → V → Prop
  | .non, v => v = .non
  | .bl b, v => v = .bl b
  | .int i, v => v = .int i
  | .str s, v => v = .str s
  | .ty n, v => v = .ty n
  | .cls c, v => v = .ref (G.cad c)
  | .tup l, v => ∃ a vs, v = .ref a ∧ ((H a = some (.tup vs) ∧ ¬ av a) ∨ TupK G.K a vs) ∧ RPs G av H l vs
  | .lst l, v => ∃ a vs, v = .ref a ∧ H a = some (.lst vs) ∧ ¬ av a ∧ RPs G av H l vs
  | .fro l, v => ∃ a vs, v = .ref a ∧ ((∃ o, H a = some (.frz o (.lst vs)) ∧ ¬ av a) ∨ LstK G.K a vs) ∧ RPs G av H l vs
  | .dic ks l, v => ∃ a kvs, v = .ref a ∧ H a = some (.dK kvs) ∧ ¬ av a ∧ kvs.map (fun q => keyP q.1) = ks ∧ RPs G av H l (kvs.map (·.2))
  | .obj c ns l, v => ∃ a dx vs, v = .ref a ∧ H a = some (.ins (G.cad c) dx (G.fs ns vs)) ∧ ¬ av a ∧ ns.length = l.length ∧ RPs G av H l vs
def RPs (G : Gx) (av : Addr → Prop) (H : Hp) : List P → List V → Prop
  | [], vs => vs = []
  | x :: r, vs => ∃ v w, vs = v :: w ∧ RP G av H x v ∧ RPs G av H r w
end

/-- what stood stands: outside of av nothing has changed, av has grown by new places alone -/
structure Mo (av av' : Addr → Prop) (H H' : Hp) : Prop where
  keep : ∀ a o, H a = some o → ¬ av a → H' a = some o
  less : ∀ a, av' a → av a ∨ H a = none

theorem Mo.nav {av av' : Addr → Prop} {H H' : Hp} (m : Mo av av' H H') {a : Addr} {o : HO} (h : H a = some o) (n : ¬ av a) : ¬ av' a := fun z => by
  rcases m.less a z with q | q
  · exact n q
  · rw [h] at q; cases q

mutual
theorem RP.mono {G : Gx} {av av' : Addr → Prop} {H H' : Hp} (m : Mo av av' H H') : ∀ (x : P) (v : V), RP G av H x v → RP G av' H' x v
  | .non, _, h => h
  | .bl _, _, h => h
  | .int _, _, h => h
  | .str _, _, h => h
  | .ty _, _, h => h
  | .cls _, _, h => h
  | .tup l, v, h => by
    obtain ⟨a, vs, e, h1, h2⟩ := h
    refine ⟨a, vs, e, ?_, RPs.mono m l vs h2⟩
    rcases h1 with ⟨h1, n⟩ | h1
    · exact .inl ⟨m.keep a _ h1 n, m.nav h1 n⟩
    · exact .inr h1
  | .lst l, v, h => by
    obtain ⟨a, vs, e, h1, n, h2⟩ := h
    exact ⟨a, vs, e, m.keep a _ h1 n, m.nav h1 n, RPs.mono m l vs h2⟩
  | .fro l, v, h => by
    obtain ⟨a, vs, e, h1, h2⟩ := h
    refine ⟨a, vs, e, ?_, RPs.mono m l vs h2⟩
    rcases h1 with ⟨o, h1, n⟩ | h1
    · exact .inl ⟨o, m.keep a _ h1 n, m.nav h1 n⟩
    · exact .inr h1
  | .dic ks l, v, h => by
    obtain ⟨a, kvs, e, h1, n, hk, h2⟩ := h
    exact ⟨a, kvs, e, m.keep a _ h1 n, m.nav h1 n, hk, RPs.mono m l _ h2⟩
  | .obj c ns l, v, h => by
    obtain ⟨a, dx, vs, e, h1, n, hl, h2⟩ := h
    exact ⟨a, dx, vs, e, m.keep a _ h1 n, m.nav h1 n, hl, RPs.mono m l vs h2⟩
theorem RPs.mono {G : Gx} {av av' : Addr → Prop} {H H' : Hp} (m : Mo av av' H H') : ∀ (l : List P) (vs : List V), RPs G av H l vs → RPs G av' H' l vs
  | [], _, h => h
  | x :: r, vs, h => by
    obtain ⟨v, w, e, h1, h2⟩ := h
    exact ⟨v, w, e, RP.mono m x v h1, RPs.mono m r w h2⟩
end

section
variable {G : Gx} {av : Addr → Prop} {H : Hp}
theorem RPs.len : ∀ {l : List P} {vs : List V}, RPs G av H l vs → l.length = vs.length
  | [], _, h => by rw [show _ = [] from h]; rfl
  | x :: r, vs, h => by
    obtain ⟨v, w, rfl, _, h2⟩ := h
    rw [List.length_cons, List.length_cons, RPs.len h2]
theorem RPs.get : ∀ {l : List P} {vs : List V} {i : Nat} {x : P}, RPs G av H l vs → l[i]? = some x → ∃ v, vs[i]? = some v ∧ RP G av H x v
  | [], _, i, x, _, e => by simp at e
  | y :: r, vs, 0, x, h, e => by
    obtain ⟨v, w, rfl, h1, _⟩ := h
    simp at e
    subst e
    exact ⟨v, by simp, h1⟩
  | y :: r, vs, i + 1, x, h, e => by
    obtain ⟨v, w, rfl, _, h2⟩ := h
    obtain ⟨u, e1, e2⟩ := RPs.get (i := i) (x := x) h2 (by simpa using e)
    exact ⟨u, by simpa using e1, e2⟩
theorem RPs.app : ∀ {l l' : List P} {vs vs' : List V}, RPs G av H l vs → RPs G av H l' vs' → RPs G av H (l ++ l') (vs ++ vs')
  | [], _, _, _, h, h' => by rw [show _ = [] from h]; exact h'
  | x :: r, _, vs, _, h, h' => by
    obtain ⟨v, w, rfl, h1, h2⟩ := h
    exact ⟨v, w ++ _, rfl, h1, RPs.app h2 h'⟩
theorem RPs.take : ∀ {l : List P} {vs : List V} (n : Nat), RPs G av H l vs → RPs G av H (l.take n) (vs.take n)
  | [], _, n, h => by
    rw [show _ = [] from h, List.take_nil, List.take_nil]
    rfl
  | x :: r, vs, 0, h => rfl
  | x :: r, vs, n + 1, h => by
    obtain ⟨v, w, rfl, h1, h2⟩ := h
    exact ⟨v, w.take n, rfl, h1, RPs.take n h2⟩
theorem RPs.drop : ∀ {l : List P} {vs : List V} (n : Nat), RPs G av H l vs → RPs G av H (l.drop n) (vs.drop n)
  | [], _, n, h => by
    rw [show _ = [] from h, List.drop_nil, List.drop_nil]
    rfl
  | x :: r, vs, 0, h => h
  | x :: r, vs, n + 1, h => by
    obtain ⟨v, w, rfl, h1, h2⟩ := h
    exact RPs.drop n h2
theorem RPs.set : ∀ {l : List P} {vs : List V} (i : Nat) {x : P} {v : V}, RP G av H x v → RPs G av H l vs → RPs G av H (l.set i x) (vs.set i v)
  | [], _, i, _, _, _, h => by
    rw [show _ = [] from h]
    rfl
  | y :: r, vs, 0, x, v, hx, h => by
    obtain ⟨v', w, rfl, h1, h2⟩ := h
    exact ⟨v, w, rfl, hx, h2⟩
  | y :: r, vs, i + 1, x, v, hx, h => by
    obtain ⟨v', w, rfl, h1, h2⟩ := h
    exact ⟨v', w.set i v, rfl, h1, RPs.set i hx h2⟩
theorem RPs.rev : ∀ {l : List P} {vs : List V}, RPs G av H l vs → RPs G av H l.reverse vs.reverse
  | [], _, h => by
    rw [show _ = [] from h]
    rfl
  | x :: r, vs, h => by
    obtain ⟨v, w, rfl, h1, h2⟩ := h
    rw [List.reverse_cons, List.reverse_cons]
    exact (RPs.rev h2).app ⟨v, [], rfl, h1, rfl⟩
theorem RPs.one {x : P} {v : V} (h : RP G av H x v) : RPs G av H [x] [v] := ⟨v, [], rfl, h, rfl⟩
theorem RPs.flat : ∀ {n : Nat} {l : List P} {vs : List V}, RPs G av H l vs → RPs G av H (List.replicate n l).flatten (List.replicate n vs).flatten
  | 0, _, _, _ => rfl
  | n + 1, _, _, h => by
    rw [List.replicate_succ, List.flatten_cons, List.replicate_succ, List.flatten_cons]
    exact h.app (RPs.flat h)
end

/-! ### states -/
def Av (av : Addr → Prop) (as : List (Option Addr)) : Addr → Prop := fun a => av a ∨ some a ∈ as

def ROk (G : Gx) (av : Addr → Prop) (H : Hp) (a : Addr) : Cl → Prop
  | .lst l => ∃ vs, H a = some (.lst vs) ∧ RPs G av H l vs
  | .ins c ns l => ∃ dx vs, H a = some (.ins (G.cad c) dx (G.fs ns vs)) ∧ ns.length = l.length ∧ (∀ n ∈ ns, n < G.na) ∧ RPs G av H l vs
  | .dead => False

structure RSt (G : Gx) (av : Addr → Prop) (as : List (Option Addr)) (H : Hp) (st : So) : Prop where
  len : as.length = st.length
  al : ∀ (i : Nat) c, st[i]? = some c → c ≠ .dead → ∃ a, as[i]? = some (some a)
  ok : ∀ (i : Nat) a, as[i]? = some (some a) → ∃ c, st[i]? = some c ∧ ROk G (Av av as) H a c
  nd : ∀ (i j : Nat) a, as[i]? = some (some a) → as[j]? = some (some a) → i = j
  dj : ∀ (i : Nat) a, as[i]? = some (some a) → ¬ av a
  tk : ∀ a, av a → H a ≠ none

structure Le (as : List (Option Addr)) (H : Hp) (as' : List (Option Addr)) (H' : Hp) : Prop where
  len : as.length ≤ as'.length
  old : ∀ (i : Nat) a, i < as.length → as'[i]? = some (some a) → as[i]? = some (some a)
  nw : ∀ (i : Nat) a, as.length ≤ i → as'[i]? = some (some a) → H a = none
  kp : ∀ a o, H a = some o → ¬ some a ∈ as → H' a = some o
  tr : ∀ a, H a ≠ none → H' a ≠ none

theorem mem_ix {α : Type} {x : α} {l : List α} (h : x ∈ l) : ∃ i : Nat, l[i]? = some x := List.getElem?_of_mem h
theorem ix_mem {α : Type} {x : α} {l : List α} {i : Nat} (h : l[i]? = some x) : x ∈ l := List.mem_of_getElem? h
theorem ix_lt {α : Type} {x : α} {l : List α} {i : Nat} (h : l[i]? = some x) : i < l.length := (List.getElem?_eq_some_iff.mp h).1

theorem Le.refl (as : List (Option Addr)) (H : Hp) : Le as H as H :=
  ⟨Nat.le_refl _, fun _ _ _ h => h, fun i a hi h => absurd (ix_lt h) (Nat.not_lt.mpr hi), fun _ _ h _ => h, fun _ h => h⟩
theorem Le.mem {as as' : List (Option Addr)} {H H' : Hp} (l : Le as H as' H') {a : Addr} (h : some a ∈ as') : some a ∈ as ∨ H a = none := by
  obtain ⟨i, hi⟩ := mem_ix h
  by_cases hl : i < as.length
  · exact .inl (ix_mem (l.old i a hl hi))
  · exact .inr (l.nw i a (Nat.le_of_not_lt hl) hi)
theorem Le.trans {as as1 as2 : List (Option Addr)} {H H1 H2 : Hp} (x : Le as H as1 H1) (y : Le as1 H1 as2 H2) : Le as H as2 H2 := by
  refine ⟨Nat.le_trans x.len y.len, fun i a hi h => x.old i a hi (y.old i a (Nat.lt_of_lt_of_le hi x.len) h), fun i a hi h => ?_, fun a o h n => ?_, fun a h => y.tr a (x.tr a h)⟩
  · by_cases hl : i < as1.length
    · exact x.nw i a hi (y.old i a hl h)
    · have z := y.nw i a (Nat.le_of_not_lt hl) h
      cases e : H a with
      | none => rfl
      | some o => exact absurd z (x.tr a (by rw [e]; intro q; cases q))
  · have h1 := x.kp a o h n
    refine y.kp a o h1 fun z => ?_
    rcases x.mem z with q | q
    · exact n q
    · rw [h] at q; cases q
theorem Le.mo {av : Addr → Prop} {as as' : List (Option Addr)} {H H' : Hp} (l : Le as H as' H') : Mo (Av av as) (Av av as') H H' :=
  ⟨fun a o h n => l.kp a o h fun z => n (.inr z), fun a z => by
    rcases z with z | z
    · exact .inl (.inl z)
    · rcases l.mem z with q | q
      · exact .inl (.inr q)
      · exact .inr q⟩
/-- the heap has grown, the cells are the same -/
theorem Le.grow {as : List (Option Addr)} {H H' : Hp} (h : ∀ a o, H a = some o → H' a = some o) : Le as H as H' :=
  ⟨Nat.le_refl _, fun _ _ _ h => h, fun i a hi h => absurd (ix_lt h) (Nat.not_lt.mpr hi), fun a o q _ => h a o q, fun a q => by
    cases e : H a with
    | none => exact absurd e q
    | some o => rw [h a o e]; intro z; cases z⟩
theorem grow_new {H : Hp} {p : Addr} {o : HO} (h : H p = none) : ∀ a u, H a = some u → upd H p o a = some u := fun a u e => by
  rw [upd_ne (ne_of_none e h)]
  exact e

section
variable {G : Gx} {av : Addr → Prop} {as as' : List (Option Addr)} {H H' : Hp} {st : So}
theorem RSt.grow (R : RSt G av as H st) (h : ∀ a o, H a = some o → H' a = some o) : RSt G av as H' st := by
  have m : Mo (Av av as) (Av av as) H H' := (Le.grow h).mo
  refine ⟨R.len, R.al, fun i a e => ?_, R.nd, R.dj, fun a z => ?_⟩
  · obtain ⟨c, e1, e2⟩ := R.ok i a e
    refine ⟨c, e1, ?_⟩
    cases c with
    | lst l =>
      obtain ⟨vs, h1, h2⟩ := e2
      exact ⟨vs, h _ _ h1, RPs.mono m l vs h2⟩
    | ins c ns l =>
      obtain ⟨dx, vs, h1, h3, h4, h2⟩ := e2
      exact ⟨dx, vs, h _ _ h1, h3, h4, RPs.mono m l vs h2⟩
    | dead => exact e2
  · have q := R.tk a z
    cases e : H a with
    | none => exact absurd e q
    | some o => rw [h a o e]; intro z; cases z

def RD (G : Gx) (av : Addr → Prop) (as : List (Option Addr)) (H : Hp) : D → V → Prop
  | .p x, v => RP G (Av av as) H x v
  | .r c, v => c < as.length ∧ ∀ a, as[c]? = some (some a) → v = .ref a
def RDs (G : Gx) (av : Addr → Prop) (as : List (Option Addr)) (H : Hp) : List D → List V → Prop
  | [], vs => vs = []
  | d :: r, vs => ∃ v w, vs = v :: w ∧ RD G av as H d v ∧ RDs G av as H r w
theorem RD.mono (l : Le as H as' H') {d : D} {v : V} (h : RD G av as H d v) : RD G av as' H' d v := by
  cases d with
  | p x => exact RP.mono l.mo x v h
  | r c => exact ⟨Nat.lt_of_lt_of_le h.1 l.len, fun a e => h.2 a (l.old c a h.1 e)⟩
theorem RDs.mono (l : Le as H as' H') : ∀ {ds : List D} {vs : List V}, RDs G av as H ds vs → RDs G av as' H' ds vs
  | [], _, h => h
  | d :: r, vs, h => by
    obtain ⟨v, w, e, h1, h2⟩ := h
    exact ⟨v, w, e, h1.mono l, RDs.mono l h2⟩
theorem RDs.len : ∀ {ds : List D} {vs : List V}, RDs G av as H ds vs → ds.length = vs.length
  | [], _, h => by rw [show _ = [] from h]; rfl
  | x :: r, vs, h => by
    obtain ⟨v, w, rfl, _, h2⟩ := h
    rw [List.length_cons, List.length_cons, RDs.len h2]

/-- the names -/
structure REn (G : Gx) (av : Addr → Prop) (as : List (Option Addr)) (H : Hp) (ρ : En) (σ : L2.St) : Prop where
  len : ρ.length = σ.length
  at_ : ∀ (i : Nat) d, ρ[i]? = some (some d) → ∃ v, σ[i]? = some (some v) ∧ RD G av as H d v
theorem REn.mono {ρ : En} {σ : L2.St} (l : Le as H as' H') (h : REn G av as H ρ σ) : REn G av as' H' ρ σ :=
  ⟨h.len, fun i d e => let ⟨v, e1, e2⟩ := h.at_ i d e; ⟨v, e1, e2.mono l⟩⟩
theorem REn.set {ρ : En} {σ : L2.St} {d : D} {v : V} (h : REn G av as H ρ σ) (i : Nat) (hd : RD G av as H d v) : REn G av as H (ρ.set i (some d)) (σ.set i (some v)) := by
  refine ⟨by rw [List.length_set, List.length_set]; exact h.len, fun j e hj => ?_⟩
  by_cases hij : i = j
  · subst hij
    have hl : i < ρ.length := by
      have := ix_lt hj
      rwa [List.length_set] at this
    rw [List.getElem?_set_self hl] at hj
    cases hj
    exact ⟨v, List.getElem?_set_self (by rw [← h.len]; exact hl), hd⟩
  · rw [List.getElem?_set_ne hij] at hj
    rw [List.getElem?_set_ne hij]
    exact h.at_ j e hj
end
end Dp
set_option Elab.async false
set_option linter.all false
set_option maxRecDepth 100000
set_option maxHeartbeats 1000000
/-! Dp, part 3: each primitive does what the machine does. -/
namespace Dp
open PySem L2

/-- .. as read behind a cell -/
def RB (G : Gx) (av : Addr → Prop) (H : Hp) : P → V → Prop
  | .lst l, v => ∃ a vs, v = .ref a ∧ H a = some (.lst vs) ∧ RPs G av H l vs
  | .obj c ns l, v => ∃ a dx vs, v = .ref a ∧ H a = some (.ins (G.cad c) dx (G.fs ns vs)) ∧ ns.length = l.length ∧ RPs G av H l vs
  | x, v => RP G av H x v
def RBs (G : Gx) (av : Addr → Prop) (H : Hp) : List P → List V → Prop
  | [], vs => vs = []
  | x :: r, vs => ∃ v w, vs = v :: w ∧ RB G av H x v ∧ RBs G av H r w
def Tk (av : Addr → Prop) (H : Hp) : Prop := ∀ a, av a → H a ≠ none
def Gw (H H' : Hp) : Prop := ∀ a o, H a = some o → H' a = some o
theorem Gw.refl (H : Hp) : Gw H H := fun _ _ h => h
theorem Gw.mo {av : Addr → Prop} {H H' : Hp} (g : Gw H H') : Mo av av H H' := ⟨fun a o h _ => g a o h, fun _ z => .inl z⟩
def QOk (G : Gx) (av : Addr → Prop) (H : Hp) (z : P) (Q : VK) : Prop := ∀ v H', Gw H H' → RP G av H' z v → Q v H'

section
variable {G : Gx} {av : Addr → Prop} {H : Hp}
theorem RB.of {x : P} {v : V} (h : RP G av H x v) : RB G av H x v := by
  cases x with
  | lst l =>
    obtain ⟨a, vs, e, h1, _, h2⟩ := h
    exact ⟨a, vs, e, h1, h2⟩
  | obj c ns l =>
    obtain ⟨a, dx, vs, e, h1, _, hl, h2⟩ := h
    exact ⟨a, dx, vs, e, h1, hl, h2⟩
  | _ => exact h
theorem Tk.fresh {p : Addr} (t : Tk av H) (h : H p = none) : ¬ av p := fun z => t p z h
theorem new_lst {l : List P} {vs : List V} {p : Addr} (t : Tk av H) (hp : H p = none) (h : RPs G av H l vs) : RP G av (upd H p (.lst vs)) (.lst l) (.ref p) :=
  ⟨p, vs, rfl, upd_same, t.fresh hp, RPs.mono (Gw.mo (grow_new hp)) l vs h⟩
theorem new_tup {l : List P} {vs : List V} {p : Addr} (t : Tk av H) (hp : H p = none) (h : RPs G av H l vs) : RP G av (upd H p (.tup vs)) (.tup l) (.ref p) :=
  ⟨p, vs, rfl, .inl ⟨upd_same, t.fresh hp⟩, RPs.mono (Gw.mo (grow_new hp)) l vs h⟩
theorem sq_tup {l : List P} {v : V} (h : RP G av H (.tup l) v) : ∃ a vs, v = .ref a ∧ SqT G.K H a vs ∧ RPs G av H l vs := by
  obtain ⟨a, vs, e, h1, h2⟩ := h
  refine ⟨a, vs, e, ?_, h2⟩
  rcases h1 with ⟨h1, _⟩ | h1
  · exact .inl (.inl h1)
  · exact .inr h1
end

theorem fits {n : Nat} (h : n ≤ big) : n ≤ sizeLine := Nat.le_trans h (by unfold big; rw [sizeLine_eq]; decide)
theorem fits' {n : Nat} (h : n ≤ 1000) : n ≤ sizeLine := Nat.le_trans h (by rw [sizeLine_eq]; decide)

mutual
theorem dp_of {G : Gx} {av : Addr → Prop} {H : Hp} : ∀ (x : P) (v : V) (d : PyData), RP G av H x v → toD x = some d → Dp G.K H v d
  | .non, v, d, h, e => by
    cases e
    rw [show v = .non from h]
    exact .non
  | .bl b, v, d, h, e => by
    cases e
    rw [show v = .bl b from h]
    exact .bl b
  | .int i, v, d, h, e => by
    cases e
    rw [show v = .int i from h]
    exact .int i
  | .str s, v, d, h, e => by
    cases e
    rw [show v = .str s from h]
    exact .str s
  | .ty _, _, _, _, e => by cases e
  | .cls _, _, _, _, e => by cases e
  | .fro _, _, _, _, e => by cases e
  | .dic _ _, _, _, _, e => by cases e
  | .obj _ _ _, _, _, _, e => by cases e
  | .tup l, v, d, h, e => by
    obtain ⟨a, vs, rfl, hs, h2⟩ := sq_tup h
    rw [toD] at e
    cases hd : toDs l with
    | none => rw [hd] at e; cases e
    | some ds =>
      rw [hd] at e
      cases e
      exact .tup hs (dps_of l vs ds h2 hd)
  | .lst l, v, d, h, e => by
    obtain ⟨a, vs, rfl, h1, _, h2⟩ := h
    rw [toD] at e
    cases hd : toDs l with
    | none => rw [hd] at e; cases e
    | some ds =>
      rw [hd] at e
      cases e
      exact .lst (.of h1) (dps_of l vs ds h2 hd)
theorem dps_of {G : Gx} {av : Addr → Prop} {H : Hp} : ∀ (l : List P) (vs : List V) (ds : List PyData), RPs G av H l vs → toDs l = some ds → DpAll G.K H vs ds
  | [], vs, ds, h, e => by
    cases e
    rw [show vs = [] from h]
    exact .nil
  | x :: r, vs, ds, h, e => by
    obtain ⟨v, w, rfl, h1, h2⟩ := h
    rw [toDs] at e
    cases hx : toD x with
    | none => rw [hx] at e; cases e
    | some d =>
      cases hr : toDs r with
      | none => rw [hx, hr] at e; cases e
      | some es =>
        rw [hx, hr] at e
        cases e
        exact .cons (dp_of x v d h1 hx) (dps_of r w es h2 hr)
end
theorem dpB_of {G : Gx} {av : Addr → Prop} {H : Hp} {x : P} {v : V} {d : PyData} (h : RB G av H x v) (e : toD x = some d) : Dp G.K H v d := by
  cases x with
  | lst l =>
    obtain ⟨a, vs, rfl, h1, h2⟩ := h
    rw [toD] at e
    cases hd : toDs l with
    | none => rw [hd] at e; cases e
    | some ds =>
      rw [hd] at e
      cases e
      exact .lst (.of h1) (dps_of l vs ds h2 hd)
  | obj c ns l => cases e
  | non => exact dp_of _ _ _ h e
  | bl b => exact dp_of _ _ _ h e
  | int i => exact dp_of _ _ _ h e
  | str s => exact dp_of _ _ _ h e
  | ty n => exact dp_of _ _ _ h e
  | cls c => exact dp_of _ _ _ h e
  | tup l => exact dp_of _ _ _ h e
  | fro l => exact dp_of _ _ _ h e
  | dic ks l => exact dp_of _ _ _ h e

/-- an operator of two values -/
def OpS (X : Cx) (f : Value → Value → Sem Value) (o : O2) : Prop :=
  ∃ r : R2, OpR X f r ∧ ∀ (G : Gx) (av : Addr → Prop) (H : Hp) (x y : V) (a b z : P), G.K = X.K → Tk av H → RB G av H a x → RB G av H b y → op2 o a b = some z →
    ∀ Q : VK, QOk G av H z Q → r x y H Q

section
variable {X : Cx} {G : Gx} {av : Addr → Prop} {H : Hp}
theorem rb_int {i : Int} {x : V} (h : RB G av H (.int i) x) : x = .int i := h
theorem rb_str {s : Str} {x : V} (h : RB G av H (.str s) x) : x = .str s := h
theorem QOk.now {z : P} {Q : VK} {v : V} (q : QOk G av H z Q) (h : RP G av H z v) : Q v H := q v H (Gw.refl H) h
theorem intP_inv {f : Int → Int → Option P} {a b z : P} (h : intP f a b = some z) : ∃ i j, a = .int i ∧ b = .int j ∧ f i j = some z := by
  cases a <;> cases b <;> first | (cases h; done) | exact ⟨_, _, rfl, rfl, h⟩

theorem ops_add : OpS X (binaryOp .Add) .add := by
  refine ⟨_, OpR.or op_add (OpR.or op_add_str (OpR.or op_cat op_catA)), fun G av H x y a b z hK tk ha hb hz Q q => ?_⟩
  change addP a b = some z at hz
  cases a <;> cases b <;> first | (cases hz; done) | skip
  case int.int i j =>
    cases hz
    exact .inl ⟨i, j, ha, hb, q.now rfl⟩
  case str.str s t =>
    rw [addP] at hz
    split at hz
    · rename_i hl
      cases hz
      exact .inr (.inl ⟨s, t, ha, hb, fits hl, q.now rfl⟩)
    · cases hz
  case tup.tup s t =>
    rw [addP] at hz
    split at hz
    · rename_i hl
      cases hz
      obtain ⟨a, vs, rfl, h1, h2⟩ := sq_tup ha
      obtain ⟨b, ws, rfl, h3, h4⟩ := sq_tup hb
      rw [hK] at h1 h3
      have e1 := h2.len
      have e2 := h4.len
      refine .inr (.inr (.inr ⟨a, b, vs, ws, rfl, rfl, h1, h3, by rw [← e1, ← e2]; exact fits hl, fun e => ?_, fun e e' => ?_, fun e e' p hp => ?_⟩))
      · subst e
        have : s = [] := List.length_eq_zero_iff.mp e1
        subst this
        exact q.now hb
      · subst e'
        have : t = [] := List.length_eq_zero_iff.mp e2
        subst this
        refine q.now ?_
        rw [List.append_nil]
        exact ha
      · exact q _ _ (grow_new hp) (new_tup tk hp (h2.app h4))
    · cases hz
  case lst.lst s t =>
    rw [addP] at hz
    split at hz
    · rename_i hl
      cases hz
      obtain ⟨a, vs, rfl, h1, h2⟩ := ha
      obtain ⟨b, ws, rfl, h3, h4⟩ := hb
      have e1 := h2.len
      have e2 := h4.len
      exact .inr (.inr (.inl ⟨a, b, vs, ws, rfl, rfl, h1, h3, by rw [← e1, ← e2]; exact fits hl, fun p hp => q _ _ (grow_new hp) (new_lst tk hp (h2.app h4))⟩))
    · cases hz
theorem ops_int {f : Value → Value → Sem Value} {o : O2} {C : Int → Int → Prop} {g : Int → Int → V} {h : Int → Int → Option P} (e : ∀ a b, op2 o a b = intP h a b)
    (hr : OpR X f (rI C g)) (ok : ∀ i j z, h i j = some z → C i j ∧ ∀ (G : Gx) av H, RP G av H z (g i j)) : OpS X f o := by
  refine ⟨_, hr, fun G av H x y a b z _ _ ha hb hz Q q => ?_⟩
  rw [e] at hz
  obtain ⟨i, j, rfl, rfl, hz⟩ := intP_inv hz
  obtain ⟨c, r⟩ := ok i j z hz
  exact ⟨i, j, ha, hb, c, q.now (r G av H)⟩
theorem ops_int0 {f : Value → Value → Sem Value} {o : O2} {g : Int → Int → V} {h : Int → Int → Option P} (e : ∀ a b, op2 o a b = intP h a b)
    (hr : OpR X f (rI0 g)) (ok : ∀ i j z, h i j = some z → ∀ (G : Gx) av H, RP G av H z (g i j)) : OpS X f o := by
  refine ⟨_, hr, fun G av H x y a b z _ _ ha hb hz Q q => ?_⟩
  rw [e] at hz
  obtain ⟨i, j, rfl, rfl, hz⟩ := intP_inv hz
  exact ⟨i, j, ha, hb, q.now (ok i j z hz G av H)⟩
theorem ops_sub : OpS X (binaryOp .Sub) .sub := ops_int0 (fun _ _ => rfl) op_sub fun i j z e G av H => by cases e; rfl
theorem ops_lt : OpS X (compareOp .Lt) .lt := ops_int0 (fun _ _ => rfl) op_lt fun i j z e G av H => by cases e; rfl
theorem ops_le : OpS X (compareOp .LtE) .le := ops_int0 (fun _ _ => rfl) op_le fun i j z e G av H => by cases e; rfl
theorem ops_gt : OpS X (compareOp .Gt) .gt := ops_int0 (fun _ _ => rfl) op_gt fun i j z e G av H => by cases e; rfl
theorem ops_ge : OpS X (compareOp .GtE) .ge := ops_int0 (fun _ _ => rfl) op_ge fun i j z e G av H => by cases e; rfl
theorem some_if {α : Type} {c : Prop} [Decidable c] {x z : α} (h : (if c then some x else none) = some z) : c ∧ x = z := by
  split at h
  · rename_i hc
    exact ⟨hc, Option.some.inj h⟩
  · cases h
theorem ops_fdv : OpS X (binaryOp .FloorDiv) .fdv := ops_int (fun _ _ => rfl) op_fdivW fun i j z e => by
  obtain ⟨⟨h1, h2⟩, rfl⟩ := some_if e
  exact ⟨wide_div (b := 200) h1 (by omega) (by decide) (by decide), fun _ _ _ => rfl⟩
theorem ops_mod : OpS X (binaryOp .Mod) .mod := ops_int (fun _ _ => rfl) op_mod fun i j z e => by
  obtain ⟨h1, rfl⟩ := some_if e
  exact ⟨h1, fun _ _ _ => rfl⟩
theorem ops_pow : OpS X (binaryOp .Pow) .pow := ops_int (fun _ _ => rfl) op_pow fun i j z e => by
  obtain ⟨⟨h1, h2, h3⟩, rfl⟩ := some_if e
  exact ⟨⟨h1, by omega, h3⟩, fun _ _ _ => rfl⟩
theorem ops_mul : OpS X (binaryOp .Mult) .mul := by
  refine ⟨_, OpR.or op_mul op_rep, fun G av H x y a b z hK tk ha hb hz Q q => ?_⟩
  change mulP a b = some z at hz
  cases a <;> cases b <;> first | (cases hz; done) | skip
  case int.int i j =>
    obtain ⟨h1, rfl⟩ := some_if hz
    refine .inl ⟨i, j, ha, hb, ?_, q.now rfl⟩
    rcases h1 with h1 | h1
    · exact .inl ⟨by omega, by omega⟩
    · exact .inr ⟨by omega, by omega⟩
  case lst.int l k =>
    obtain ⟨⟨h1, h2, h3⟩, rfl⟩ := some_if hz
    obtain ⟨a, vs, rfl, h4, h5⟩ := ha
    refine .inr ⟨a, k, vs, rfl, hb, h4, by omega, by omega, ?_, fun p hp => q _ _ (grow_new hp) (new_lst tk hp h5.flat)⟩
    have e1 := h5.len
    rw [← e1, sizeLine_eq]
    have : l.length * k.toNat ≤ 1000 * 1000 := Nat.mul_le_mul h3 (by omega)
    omega
theorem ops_eq (hu : X.A.units + 64 < cLine) : OpS X (compareOp .Eq) .eq := by
  refine ⟨_, op_eqD hu, fun G av H x y a b z hK tk ha hb hz Q q => ?_⟩
  have hz : (eqP a b).map P.bl = some z := hz
  unfold eqP at hz
  cases e1 : toD a with
  | none => rw [e1] at hz; cases hz
  | some d =>
    cases e2 : toD b with
    | none => rw [e1, e2] at hz; cases hz
    | some e =>
      rw [e1, e2] at hz
      dsimp only at hz
      split at hz
      · rename_i hs
        cases hz
        rw [Bool.and_eq_true] at hs
        have h1 := dpB_of ha e1
        have h2 := dpB_of hb e2
        rw [hK] at h1 h2
        exact ⟨d, e, h1, h2, hs.1, hs.2, q.now rfl⟩
      · cases hz
theorem ops_ne (hu : X.A.units + 64 < cLine) : OpS X (compareOp .NotEq) .ne := by
  refine ⟨_, op_neD hu, fun G av H x y a b z hK tk ha hb hz Q q => ?_⟩
  have hz : (eqP a b).map (fun k => P.bl (!k)) = some z := hz
  unfold eqP at hz
  cases e1 : toD a with
  | none => rw [e1] at hz; cases hz
  | some d =>
    cases e2 : toD b with
    | none => rw [e1, e2] at hz; cases hz
    | some e =>
      rw [e1, e2] at hz
      dsimp only at hz
      split at hz
      · rename_i hs
        cases hz
        rw [Bool.and_eq_true] at hs
        have h1 := dpB_of ha e1
        have h2 := dpB_of hb e2
        rw [hK] at h1 h2
        exact ⟨d, e, h1, h2, hs.1, hs.2, q.now rfl⟩
      · cases hz
theorem strOf_some {y : P} (h : (strOf y).isSome = true) : ∃ s, y = .str s := by
  cases y <;> first | exact ⟨_, rfl⟩ | (cases h; done)
theorem all_strs : ∀ {l : List P} {vs : List V}, RPs G av H l vs → l.all (fun y => (strOf y).isSome) = true → ∀ s : Str,
    vs.all flatV = true ∧ inV (.str s) vs = l.any fun y => decide (strOf y = some s)
  | [], vs, h, _, s => by
    rw [show vs = [] from h]
    exact ⟨rfl, rfl⟩
  | y :: r, vs, h, ha, s => by
    obtain ⟨v, w, rfl, h1, h2⟩ := h
    rw [List.all_cons, Bool.and_eq_true] at ha
    obtain ⟨t, rfl⟩ := strOf_some ha.1
    obtain ⟨i1, i2⟩ := all_strs h2 ha.2 s
    rw [show v = .str t from h1]
    refine ⟨by rw [List.all_cons, i1]; rfl, ?_⟩
    unfold inV at i2 ⊢
    rw [List.any_cons, List.any_cons, i2]
    congr 1
    show (t == s) = decide (some t = some s)
    by_cases e : t = s
    · subst e; simp
    · simp [e]
theorem str_one {s : Str} {c : Nat} (h : s.cps.toList = [c]) : s = ⟨#[c]⟩ := by
  cases s with
  | mk cps =>
    congr 1
    have h : cps.toList = [c] := h
    rw [← Array.toArray_toList (xs := cps), h]
theorem in_inv {a b : P} {k : Bool} (h : inP a b = some k) : (∃ (c : Nat) (t : Str), a = .str ⟨#[c]⟩ ∧ b = .str t ∧ k = decide (c ∈ t.cps.toList)) ∨
    ∃ s l, a = .str s ∧ (b = .lst l ∨ b = .tup l) ∧ l.all (fun y => (strOf y).isSome) = true ∧ k = l.any fun y => decide (strOf y = some s) := by
  cases a <;> cases b <;> first | (cases h; done) | skip
  case str.str s t =>
    rw [inP] at h
    split at h
    · rename_i c hc
      cases h
      exact .inl ⟨c, t, by rw [str_one hc], rfl, rfl⟩
    · cases h
  case str.lst s l =>
    obtain ⟨h1, h2⟩ := some_if h
    exact .inr ⟨s, l, rfl, .inl rfl, h1, h2.symm⟩
  case str.tup s l =>
    obtain ⟨h1, h2⟩ := some_if h
    exact .inr ⟨s, l, rfl, .inr rfl, h1, h2.symm⟩
theorem seq_of {l : List P} {b : P} {y : V} (e : b = .lst l ∨ b = .tup l) (hb : RB G av H b y) : ∃ p vs, y = .ref p ∧ (SqL G.K H p vs ∨ SqT G.K H p vs) ∧ RPs G av H l vs := by
  rcases e with rfl | rfl
  · obtain ⟨p, vs, rfl, h1, h2⟩ := hb
    exact ⟨p, vs, rfl, .inl (.of h1), h2⟩
  · obtain ⟨p, vs, rfl, h1, h2⟩ := sq_tup hb
    exact ⟨p, vs, rfl, .inr h1, h2⟩
theorem ops_in : OpS X (compareOp .In) .isin := by
  refine ⟨_, OpR.or op_in_sign op_in_seq, fun G av H x y a b z hK tk ha hb hz Q q => ?_⟩
  have hz : (inP a b).map P.bl = some z := hz
  obtain ⟨k, hk, rfl⟩ := Option.map_eq_some_iff.mp hz
  rcases in_inv hk with ⟨c, t, rfl, rfl, rfl⟩ | ⟨s, l, rfl, e, hl, rfl⟩
  · exact .inl ⟨c, t, ha, hb, q.now rfl⟩
  · obtain ⟨p, vs, rfl, h1, h2⟩ := seq_of e hb
    obtain ⟨h3, h4⟩ := all_strs h2 hl s
    rw [hK] at h1
    rw [show x = .str s from ha]
    exact .inr ⟨p, vs, rfl, h1, rfl, h3, q.now (by rw [if_neg Bool.false_ne_true, h4]; rfl)⟩
theorem ops_nin : OpS X (compareOp .NotIn) .nin := by
  refine ⟨_, OpR.or op_notIn_sign op_notIn_seq, fun G av H x y a b z hK tk ha hb hz Q q => ?_⟩
  have hz : (inP a b).map (fun k => P.bl (!k)) = some z := hz
  obtain ⟨k, hk, rfl⟩ := Option.map_eq_some_iff.mp hz
  rcases in_inv hk with ⟨c, t, rfl, rfl, rfl⟩ | ⟨s, l, rfl, e, hl, rfl⟩
  · exact .inl ⟨c, t, ha, hb, q.now rfl⟩
  · obtain ⟨p, vs, rfl, h1, h2⟩ := seq_of e hb
    obtain ⟨h3, h4⟩ := all_strs h2 hl s
    rw [hK] at h1
    rw [show x = .str s from ha]
    exact .inr ⟨p, vs, rfl, h1, rfl, h3, q.now (by rw [if_pos rfl, h4]; rfl)⟩
theorem non_iff {a : P} {x : V} (h : RB G av H a x) : decide (x = .non) = Dp.isNon a := by
  cases a with
  | non => rw [show x = .non from h]; rfl
  | bl b => rw [show x = .bl b from h]; rfl
  | int b => rw [show x = .int b from h]; rfl
  | str b => rw [show x = .str b from h]; rfl
  | ty b => rw [show x = .ty b from h]; rfl
  | cls b => rw [show x = .ref _ from h]; rfl
  | tup l => obtain ⟨_, _, rfl, _⟩ := h; rfl
  | lst l => obtain ⟨_, _, rfl, _⟩ := h; rfl
  | fro l => obtain ⟨_, _, rfl, _⟩ := h; rfl
  | dic ks l => obtain ⟨_, _, rfl, _⟩ := h; rfl
  | obj c ns l => obtain ⟨_, _, _, rfl, _⟩ := h; rfl
theorem isNon_eq {b : P} (h : Dp.isNon b = true) : b = .non := by cases b <;> first | rfl | (cases h; done)
theorem ops_is : OpS X (compareOp .Is) .is_ := by
  refine ⟨_, op_isN, fun G av H x y a b z hK tk ha hb hz Q q => ?_⟩
  obtain ⟨h1, rfl⟩ := some_if hz
  obtain rfl := isNon_eq h1
  exact ⟨hb, q.now (by rw [non_iff ha]; rfl)⟩
theorem ops_isn : OpS X (compareOp .IsNot) .isn := by
  refine ⟨_, op_notN, fun G av H x y a b z hK tk ha hb hz Q q => ?_⟩
  obtain ⟨h1, rfl⟩ := some_if hz
  obtain rfl := isNon_eq h1
  exact ⟨hb, q.now (by rw [non_iff ha]; rfl)⟩
end
end Dp
set_option Elab.async false
set_option linter.all false
set_option maxRecDepth 100000
set_option maxHeartbeats 200000
/-! Dp, part 4: calls of built-ins, methods, subscripts, slices. -/
namespace Dp
open PySem L2

def CallS (X : Cx) (f : Value) (g : List P → Option P) : Prop :=
  ∃ r : List V → Hp → VK → Prop, CallR X f r ∧ ∀ (G : Gx) (av : Addr → Prop) (H : Hp) (vs : List V) (ps : List P) (z : P), G.K = X.K → Tk av H → RBs G av H ps vs → g ps = some z →
    ∀ Q : VK, QOk G av H z Q → r vs H Q

section
variable {X : Cx} {G : Gx} {av : Addr → Prop} {H : Hp}
theorem un_inv {f : P → Option P} {ps : List P} {z : P} (h : un f ps = some z) : ∃ a, ps = [a] ∧ f a = some z := by
  match ps, h with
  | [a], h => exact ⟨a, rfl, h⟩
theorem bin_inv {f : P → P → Option P} {ps : List P} {z : P} (h : bin f ps = some z) : ∃ a b, ps = [a, b] ∧ f a b = some z := by
  match ps, h with
  | [a, b], h => exact ⟨a, b, rfl, h⟩
theorem rbs1 {a : P} {vs : List V} (h : RBs G av H [a] vs) : ∃ v, vs = [v] ∧ RB G av H a v := by
  obtain ⟨v, w, e, h1, h2⟩ := h
  exact ⟨v, by rw [e, show w = [] from h2], h1⟩
theorem rbs2 {a b : P} {vs : List V} (h : RBs G av H [a, b] vs) : ∃ v u, vs = [v, u] ∧ RB G av H a v ∧ RB G av H b u := by
  obtain ⟨v, w, e, h1, h2⟩ := h
  obtain ⟨u, rfl, h3⟩ := rbs1 h2
  exact ⟨v, u, e, h1, h3⟩
/-- a list or tuple to be read, whatever it is -/
inductive Seq (G : Gx) (av : Addr → Prop) (H : Hp) : P → List P → Addr → List V → Prop
  | l {l a vs} : SqL G.K H a vs → RPs G av H l vs → Seq G av H (.lst l) l a vs
  | f {l a vs} : SqL G.K H a vs → RPs G av H l vs → Seq G av H (.fro l) l a vs
  | t {l a vs} : SqT G.K H a vs → RPs G av H l vs → Seq G av H (.tup l) l a vs
theorem seq_l {l : List P} {v : V} (h : RB G av H (.lst l) v) : ∃ a vs, v = .ref a ∧ SqL G.K H a vs ∧ RPs G av H l vs := by
  obtain ⟨a, vs, e, h1, h2⟩ := h
  exact ⟨a, vs, e, .of h1, h2⟩
theorem sql_f {l : List P} {v : V} (h : RP G av H (.fro l) v) : ∃ a vs, v = .ref a ∧ SqL G.K H a vs ∧ RPs G av H l vs := by
  obtain ⟨a, vs, e, h1, h2⟩ := h
  rcases h1 with ⟨o, h1, _⟩ | h1
  · exact ⟨a, vs, e, .inl (.inr ⟨o, h1⟩), h2⟩
  · exact ⟨a, vs, e, .inr h1, h2⟩
theorem seq_f {l : List P} {v : V} (h : RB G av H (.fro l) v) : ∃ a vs, v = .ref a ∧ SqL G.K H a vs ∧ RPs G av H l vs := sql_f h

theorem cs_len : CallS X (.builtin "len") (un lenP) := by
  refine ⟨_, call_len, fun G av H vs ps z hK tk h hz Q q => ?_⟩
  replace hz := un_inv hz
  obtain ⟨a, rfl, hz⟩ := hz
  obtain ⟨v, rfl, ha⟩ := rbs1 h
  cases a <;> first | (cases hz; done) | skip
  case str s =>
    obtain ⟨h1, rfl⟩ := some_if hz
    rw [show v = .str s from ha]
    exact ⟨.str s, s.length, rfl, ⟨fits h1, rfl⟩, q.now rfl⟩
  case lst l =>
    cases hz
    obtain ⟨a, vs, rfl, h1, h2⟩ := seq_l ha
    rw [hK] at h1
    exact ⟨.ref a, vs.length, rfl, .inl ⟨vs, h1, rfl⟩, q.now (by rw [← h2.len]; rfl)⟩
  case fro l =>
    cases hz
    obtain ⟨a, vs, rfl, h1, h2⟩ := seq_f ha
    rw [hK] at h1
    exact ⟨.ref a, vs.length, rfl, .inl ⟨vs, h1, rfl⟩, q.now (by rw [← h2.len]; rfl)⟩
  case tup l =>
    cases hz
    obtain ⟨a, vs, rfl, h1, h2⟩ := sq_tup ha
    rw [hK] at h1
    exact ⟨.ref a, vs.length, rfl, .inr ⟨vs, h1, rfl⟩, q.now (by rw [← h2.len]; rfl)⟩
theorem cs_int : CallS X (.type "int") (un toInt) := by
  refine ⟨_, call_int1, fun G av H vs ps z hK tk h hz Q q => ?_⟩
  replace hz := un_inv hz
  obtain ⟨a, rfl, hz⟩ := hz
  obtain ⟨v, rfl, ha⟩ := rbs1 h
  cases a <;> first | (cases hz; done) | skip
  case int i =>
    cases hz
    rw [show v = .int i from ha]
    exact .inl ⟨i, rfl, q.now rfl⟩
theorem cs_abs : CallS X (.builtin "abs") (un absP) := by
  refine ⟨_, call_abs, fun G av H vs ps z hK tk h hz Q q => ?_⟩
  replace hz := un_inv hz
  obtain ⟨a, rfl, hz⟩ := hz
  obtain ⟨v, rfl, ha⟩ := rbs1 h
  cases a <;> first | (cases hz; done) | skip
  case int i =>
    cases hz
    rw [show v = .int i from ha]
    exact ⟨i, rfl, q.now rfl⟩
theorem cs_min (hc : X.calm = true) : CallS X (.builtin "min") (bin minP) := by
  refine ⟨_, call_min2 hc, fun G av H vs ps z hK tk h hz Q q => ?_⟩
  replace hz := bin_inv hz
  obtain ⟨a, b, rfl, hz⟩ := hz
  obtain ⟨v, u, rfl, ha, hb⟩ := rbs2 h
  obtain ⟨i, j, rfl, rfl, hz⟩ := intP_inv hz
  cases hz
  rw [show v = .int i from ha, show u = .int j from hb]
  exact ⟨i, j, rfl, q.now rfl⟩
theorem cs_max (hc : X.calm = true) : CallS X (.builtin "max") (bin maxP) := by
  refine ⟨_, call_max2 hc, fun G av H vs ps z hK tk h hz Q q => ?_⟩
  replace hz := bin_inv hz
  obtain ⟨a, b, rfl, hz⟩ := hz
  obtain ⟨v, u, rfl, ha, hb⟩ := rbs2 h
  obtain ⟨i, j, rfl, rfl, hz⟩ := intP_inv hz
  cases hz
  rw [show v = .int i from ha, show u = .int j from hb]
  exact ⟨i, j, rfl, q.now rfl⟩
theorem cs_dvm : CallS X (.builtin "divmod") (bin dvmP) := by
  refine ⟨_, call_divmod, fun G av H vs ps z hK tk h hz Q q => ?_⟩
  replace hz := bin_inv hz
  obtain ⟨a, b, rfl, hz⟩ := hz
  obtain ⟨v, u, rfl, ha, hb⟩ := rbs2 h
  obtain ⟨i, j, rfl, rfl, hz⟩ := intP_inv hz
  obtain ⟨⟨h1, h2⟩, rfl⟩ := some_if hz
  rw [show v = .int i from ha, show u = .int j from hb]
  exact ⟨i, j, rfl, ⟨h1, by omega⟩, fun p hp => q _ _ (grow_new hp) (new_tup tk hp ⟨_, _, rfl, rfl, _, _, rfl, rfl, rfl⟩)⟩
theorem bls_of : ∀ {l : List P} {vs : List V} {bs : List Bool}, RPs G av H l vs → allBl l = some bs → vs = bs.map V.bl := by
  intro l
  induction l with
  | nil =>
    intro vs bs h e
    cases e
    exact h
  | cons x r ih =>
    intro vs bs h e
    obtain ⟨v, w, rfl, h1, h2⟩ := h
    cases x with
    | bl b =>
      obtain ⟨cs, hc, rfl⟩ := Option.map_eq_some_iff.mp (show (allBl r).map (b :: ·) = some bs from e)
      rw [ih h2 hc, show v = .bl b from h1]
      rfl
    | _ => cases e
theorem strs_of : ∀ {l : List P} {vs : List V} {bs : List Str}, RPs G av H l vs → allStr l = some bs → vs = bs.map V.str := by
  intro l
  induction l with
  | nil =>
    intro vs bs h e
    cases e
    exact h
  | cons x r ih =>
    intro vs bs h e
    obtain ⟨v, w, rfl, h1, h2⟩ := h
    cases x with
    | str b =>
      obtain ⟨cs, hc, rfl⟩ := Option.map_eq_some_iff.mp (show (allStr r).map (b :: ·) = some bs from e)
      rw [ih h2 hc, show v = .str b from h1]
      rfl
    | _ => cases e
theorem cs_all (hc : X.calm = true) : CallS X (.builtin "all") (un allP) := by
  refine ⟨_, cr_all hc, fun G av H vs ps z hK tk h hz Q q => ?_⟩
  replace hz := un_inv hz
  obtain ⟨a, rfl, hz⟩ := hz
  obtain ⟨v, rfl, ha⟩ := rbs1 h
  cases a <;> first | (cases hz; done) | skip
  case lst l =>
    obtain ⟨bs, hb, rfl⟩ := Option.map_eq_some_iff.mp (show (allBl l).map (fun bs => P.bl (bs.all id)) = some z from hz)
    obtain ⟨a, vs, rfl, h1, h2⟩ := seq_l ha
    rw [hK, bls_of h2 hb] at h1
    exact ⟨a, bs, rfl, h1, q.now rfl⟩
theorem cs_any (hc : X.calm = true) : CallS X (.builtin "any") (un anyP) := by
  refine ⟨_, cr_any hc, fun G av H vs ps z hK tk h hz Q q => ?_⟩
  replace hz := un_inv hz
  obtain ⟨a, rfl, hz⟩ := hz
  obtain ⟨v, rfl, ha⟩ := rbs1 h
  cases a <;> first | (cases hz; done) | skip
  case lst l =>
    obtain ⟨bs, hb, rfl⟩ := Option.map_eq_some_iff.mp (show (allBl l).map (fun bs => P.bl (bs.any id)) = some z from hz)
    obtain ⟨a, vs, rfl, h1, h2⟩ := seq_l ha
    rw [hK, bls_of h2 hb] at h1
    exact ⟨a, bs, rfl, h1, q.now rfl⟩
theorem cs_list : CallS X (.type "list") (un listP) := by
  refine ⟨_, call_list_of, fun G av H vs ps z hK tk h hz Q q => ?_⟩
  replace hz := un_inv hz
  obtain ⟨a, rfl, hz⟩ := hz
  obtain ⟨v, rfl, ha⟩ := rbs1 h
  cases a <;> first | (cases hz; done) | skip
  case lst l =>
    cases hz
    obtain ⟨a, vs, rfl, h1, h2⟩ := seq_l ha
    rw [hK] at h1
    exact ⟨a, vs, rfl, .inl h1, fun p hp => q _ _ (grow_new hp) (new_lst tk hp h2)⟩
  case fro l =>
    cases hz
    obtain ⟨a, vs, rfl, h1, h2⟩ := seq_f ha
    rw [hK] at h1
    exact ⟨a, vs, rfl, .inl h1, fun p hp => q _ _ (grow_new hp) (new_lst tk hp h2)⟩
  case tup l =>
    cases hz
    obtain ⟨a, vs, rfl, h1, h2⟩ := sq_tup ha
    rw [hK] at h1
    exact ⟨a, vs, rfl, .inr h1, fun p hp => q _ _ (grow_new hp) (new_lst tk hp h2)⟩
theorem cs_tuple : CallS X (.type "tuple") (un tupleP) := by
  refine ⟨_, call_tuple_of, fun G av H vs ps z hK tk h hz Q q => ?_⟩
  replace hz := un_inv hz
  obtain ⟨a, rfl, hz⟩ := hz
  obtain ⟨v, rfl, ha⟩ := rbs1 h
  cases a <;> first | (cases hz; done) | skip
  case lst l =>
    cases hz
    obtain ⟨a, vs, rfl, h1, h2⟩ := seq_l ha
    rw [hK] at h1
    exact ⟨a, vs, rfl, .inl ⟨h1, fun p hp => q _ _ (grow_new hp) (new_tup tk hp h2)⟩⟩
  case tup l =>
    cases hz
    have ha' : RP G av H (.tup l) v := ha
    obtain ⟨a, vs, rfl, h1, h2⟩ := sq_tup ha
    rw [hK] at h1
    exact ⟨a, vs, rfl, .inr ⟨h1, q.now ha'⟩⟩
theorem kits : ∀ t ∈ tyNames, ∀ n ∈ tyNames, kitB t n = some (t == n || (t == "bool" && n == "int")) := by decide +kernel
theorem tyP_mem {x : P} {t : String} (h : tyP x = some t) : t ∈ tyNames := by
  cases x <;> first | (cases h; done) | (cases h; decide)
theorem tyx_of {x : P} {v : V} {t : String} (h : RB G av H x v) (e : tyP x = some t) : TyX G.K H v (.type t) := by
  cases x <;> first | (cases e; done) | skip
  case non => cases e; rw [show v = .non from h]; exact .base .non
  case bl b => cases e; rw [show v = .bl b from h]; exact .base (.bl b)
  case int b => cases e; rw [show v = .int b from h]; exact .base (.int b)
  case str b => cases e; rw [show v = .str b from h]; exact .base (.str b)
  case lst l =>
    cases e
    obtain ⟨a, vs, rfl, h1, _⟩ := h
    exact .base (.lst h1)
  case tup l =>
    cases e
    obtain ⟨a, vs, rfl, h1, _⟩ := h
    rcases h1 with ⟨h1, _⟩ | ⟨o, its, n, h1, h2, _⟩
    · exact .base (.tup h1)
    · exact .kTuple h1 h2
  case dic ks l =>
    cases e
    obtain ⟨a, kvs, rfl, h1, _⟩ := h
    exact .base (.dK h1)
theorem cs_isi : CallS X (.builtin "isinstance") (bin isiP) := by
  refine ⟨_, call_isi, fun G av H vs ps z hK tk h hz Q q => ?_⟩
  replace hz := bin_inv hz
  obtain ⟨a, b, rfl, hz⟩ := hz
  obtain ⟨v, u, rfl, ha, hb⟩ := rbs2 h
  cases b <;> first | (cases hz; done) | (cases a <;> cases hz; done) | skip
  case ty n =>
    obtain ⟨t, ht, hz⟩ := Option.bind_eq_some_iff.mp (show (tyP a).bind (fun t => (isiTy t n).map P.bl) = some z from hz)
    obtain ⟨k, hk, rfl⟩ := Option.map_eq_some_iff.mp hz
    obtain ⟨hn, rfl⟩ := some_if hk
    have h1 := tyx_of ha ht
    rw [hK] at h1
    rw [show u = .ty n from hb]
    exact ⟨v, .ty n, .type t, .type n, _, rfl, .ty n, h1, kit_ty (kits t (tyP_mem ht) n hn), q.now rfl⟩

/-- repr of a list or tuple -/
def rRepr (K : PySem.W.Frag) : List V → Hp → VK → Prop := fun vs H Q => ∃ (a : Addr) (d : PyData), vs = [.ref a] ∧ Dp K H (.ref a) d ∧ d.showable = true ∧ d.depth ≤ 40 ∧ d.shown.length ≤ sizeLine ∧ d.hasDict = false ∧ Q (.str d.shown) H
theorem call_reprD (hg : X.A.guards = some []) (hu : X.A.units + 64 < cLine) : CallR X (.builtin "repr") (rRepr X.K) := by
  intro pins s σ H vs us Q I r h
  obtain ⟨a, d, rfl, hd, h1, h2, h3, h4, q⟩ := h
  cases r with
  | cons r0 rn =>
    cases rn
    obtain ⟨as, rd⟩ := hd.reads I d _ _ r0
    cases r0
    exact repr_of_reads' rd h1 (PyData.noDict_hsm h4) hg (by omega) (fun _ _ e => e) (fun h' u tk hk => ⟨.str d.shown, H, I.kept hk, ⟨_, rfl⟩, q⟩) h3
theorem cs_repr (hg : X.A.guards = some []) (hu : X.A.units + 64 < cLine) : CallS X (.builtin "repr") (un reprP) := by
  refine ⟨_, call_reprD hg hu, fun G av H vs ps z hK tk h hz Q q => ?_⟩
  replace hz := un_inv hz
  obtain ⟨a, rfl, hz⟩ := hz
  obtain ⟨v, rfl, ha⟩ := rbs1 h
  have fin : ∀ {x : P} {p : Addr}, RB G av H x (.ref p) → (toD x).bind shw = some z → rRepr X.K [.ref p] H Q := fun {x p} hx e => by
    obtain ⟨d, hd, e⟩ := Option.bind_eq_some_iff.mp e
    obtain ⟨hc, rfl⟩ := some_if e
    simp only [Bool.and_eq_true, decide_eq_true_eq, Bool.not_eq_true'] at hc
    have h1 := dpB_of hx hd
    rw [hK] at h1
    exact ⟨p, d, rfl, h1, hc.1.1.1, hc.1.1.2, fits hc.1.2, hc.2, q.now rfl⟩
  cases a <;> first | (cases hz; done) | skip
  case lst l =>
    obtain ⟨p, vs, rfl, h1, h2⟩ := id ha
    exact fin ha hz
  case tup l =>
    obtain ⟨p, vs, rfl, h1, h2⟩ := id ha
    exact fin ha hz
end
end Dp
set_option Elab.async false
set_option linter.all false
set_option maxRecDepth 100000
set_option maxHeartbeats 200000
/-! Dp, part 5: what an evaluation promises; expressions. -/
namespace Dp
open PySem L2

/-- what is wanted behind an evaluation -/
def Pst {α : Type} (G : Gx) (av : Addr → Prop) (W : WX) (σ : L2.St) (k : α → So → List (Option Addr) → Hp → Prop) (as : List (Option Addr)) (H : Hp) : Ou α → Prop
  | .ok a st => ∀ as' H', Le as H as' H' → RSt G av as' H' st → k a st as' H'
  | .ex c ns ps st => ∀ as' H' dx vs, Le as H as' H' → RSt G av as' H' st → H' dx = some (.xd (G.fs ns vs)) → ns.length = ps.length → RPs G (Av av as') H' ps vs → W (.ref (G.cad c)) (some dx) σ H'
  | .bad => False

section
variable {α β : Type} {G : Gx} {av : Addr → Prop} {W : WX} {σ : L2.St} {as as' : List (Option Addr)} {H H' : Hp} {st : So}
theorem Pst.shift {k : α → So → List (Option Addr) → Hp → Prop} (l : Le as H as' H') : ∀ {x : Ou α}, Pst G av W σ k as H x → Pst G av W σ k as' H' x
  | .ok _ _, h => fun a2 H2 l2 r => h a2 H2 (l.trans l2) r
  | .ex _ _ _ _, h => fun a2 H2 dx vs l2 r e => h a2 H2 dx vs (l.trans l2) r e
  | .bad, h => h
theorem Pst.mono {k k' : α → So → List (Option Addr) → Hp → Prop} : ∀ {x : Ou α}, Pst G av W σ k as H x →
    (∀ a st1 as1 H1, Le as H as1 H1 → RSt G av as1 H1 st1 → k a st1 as1 H1 → k' a st1 as1 H1) → Pst G av W σ k' as H x
  | .ok _ _, h, m => fun a2 H2 l r => m _ _ _ _ l r (h a2 H2 l r)
  | .ex _ _ _ _, h, _ => h
  | .bad, h, _ => h
theorem Pst.bind {k : β → So → List (Option Addr) → Hp → Prop} {f : α → So → Ou β} : ∀ {x : Ou α}, Pst G av W σ k as H (x.bind f) →
    Pst G av W σ (fun a st1 as1 H1 => Pst G av W σ k as1 H1 (f a st1)) as H x
  | .ok _ _, h => fun _ _ l _ => Pst.shift l h
  | .ex _ _ _ _, h => h
  | .bad, h => h
theorem Pst.now {k : α → So → List (Option Addr) → Hp → Prop} {a : α} (h : Pst G av W σ k as H (.ok a st)) (r : RSt G av as H st) : k a st as H := h as H (Le.refl _ _) r
end

/-- the reading of an expression: the evaluator says so -/
def TE_ (G : Gx) (T : Tab) (cf : Cf) (W : WX) (e : Ex) : TE := fun σ H Q => ∃ av as ρ st, RSt G av as H st ∧ REn G av as H ρ σ ∧
  Pst G av W σ (fun d _ as' H' => ∀ v, RD G av as' H' d v → Q v H') as H (evE T cf e ρ st)
def TA_ (G : Gx) (T : Tab) (cf : Cf) (W : WX) (es : List Ex) : TA := fun σ H Q => ∃ av as ρ st, RSt G av as H st ∧ REn G av as H ρ σ ∧
  Pst G av W σ (fun ds _ as' H' => ∀ vs, RDs G av as' H' ds vs → Q vs H') as H (evEs T cf es ρ st)
def TT_ (G : Gx) (T : Tab) (cf : Cf) (W : WX) (e : Ex) : TT := fun σ H Q => ∃ av as ρ st, RSt G av as H st ∧ REn G av as H ρ σ ∧
  Pst G av W σ (fun b _ _ H' => Q b H') as H (evT T cf e ρ st)

theorem _root_.L2.PE.imp {X : Cx} {e : Expr} {t t' : TE} (h : PE X e t) (i : ∀ σ H Q, t' σ H Q → t σ H Q) : PE X e t' := ⟨fun pins s σ H Q I q => h.run pins s σ H Q I (i σ H Q q)⟩
theorem _root_.L2.PT.imp {X : Cx} {e : Expr} {t t' : TT} (h : PT X e t) (i : ∀ σ H Q, t' σ H Q → t σ H Q) : PT X e t' := ⟨fun pins s σ H Q I q => h.run pins s σ H Q I (i σ H Q q)⟩
theorem _root_.L2.PW.imp {X : Cx} {e : Expr} {t t' : TT} (h : PW X e t) (i : ∀ σ H Q, t' σ H Q → t σ H Q) : PW X e t' := ⟨fun wh pins s σ H Q I q => h.run wh pins s σ H Q I (i σ H Q q)⟩
theorem _root_.L2.PA.imp {X : Cx} {e : List Expr} {t t' : TA} (h : PA X e t) (i : ∀ σ H Q, t' σ H Q → t σ H Q) : PA X e t' := ⟨fun pos pins s σ H Q I q => h.run pos pins s σ H Q I (i σ H Q q)⟩

section
variable {X : Cx} {G : Gx} {T : Tab} {cf : Cf} {W : WX} {av : Addr → Prop} {σ : L2.St} {as : List (Option Addr)} {H : Hp} {st : So} {ρ : En}
theorem te_step {β : Type} {k : β → So → List (Option Addr) → Hp → Prop} {f : D → So → Ou β} {e : Ex} {Q' : VK} (R : RSt G av as H st) (E : REn G av as H ρ σ) (h : Pst G av W σ k as H ((evE T cf e ρ st).bind f))
    (go : ∀ d st1 as1 H1 v, Le as H as1 H1 → RSt G av as1 H1 st1 → REn G av as1 H1 ρ σ → RD G av as1 H1 d v → Pst G av W σ k as1 H1 (f d st1) → Q' v H1) : TE_ G T cf W e σ H Q' :=
  ⟨av, as, ρ, st, R, E, h.bind.mono fun d st1 as1 H1 l r q v rd => go d st1 as1 H1 v l r (E.mono l) rd q⟩
theorem ta_step {β : Type} {k : β → So → List (Option Addr) → Hp → Prop} {f : List D → So → Ou β} {es : List Ex} {Q' : List V → Hp → Prop} (R : RSt G av as H st) (E : REn G av as H ρ σ) (h : Pst G av W σ k as H ((evEs T cf es ρ st).bind f))
    (go : ∀ ds st1 as1 H1 vs, Le as H as1 H1 → RSt G av as1 H1 st1 → REn G av as1 H1 ρ σ → RDs G av as1 H1 ds vs → Pst G av W σ k as1 H1 (f ds st1) → Q' vs H1) : TA_ G T cf W es σ H Q' :=
  ⟨av, as, ρ, st, R, E, h.bind.mono fun d st1 as1 H1 l r q v rd => go d st1 as1 H1 v l r (E.mono l) rd q⟩
theorem tt_step {β : Type} {k : β → So → List (Option Addr) → Hp → Prop} {f : Bool → So → Ou β} {e : Ex} {Q' : Bool → Hp → Prop} (R : RSt G av as H st) (E : REn G av as H ρ σ) (h : Pst G av W σ k as H ((evT T cf e ρ st).bind f))
    (go : ∀ b st1 as1 H1, Le as H as1 H1 → RSt G av as1 H1 st1 → REn G av as1 H1 ρ σ → Pst G av W σ k as1 H1 (f b st1) → Q' b H1) : TT_ G T cf W e σ H Q' :=
  ⟨av, as, ρ, st, R, E, h.bind.mono fun d st1 as1 H1 l r q => go d st1 as1 H1 l r (E.mono l) q⟩

theorem RSt.tkA (R : RSt G av as H st) : Tk (Av av as) H := fun a z => by
  rcases z with z | z
  · exact R.tk a z
  · obtain ⟨i, hi⟩ := mem_ix z
    obtain ⟨c, _, ok⟩ := R.ok i a hi
    cases c with
    | lst l => obtain ⟨vs, h, _⟩ := ok; rw [h]; intro q; cases q
    | ins c ns l => obtain ⟨dx, vs, h, _⟩ := ok; rw [h]; intro q; cases q
    | dead => exact ok.elim
theorem RSt.at_ (R : RSt G av as H st) {c : Nat} {x : Cl} {v : V} (h : st[c]? = some x) (hn : x ≠ .dead) (rd : RD G av as H (.r c) v) : ∃ a, v = .ref a ∧ as[c]? = some (some a) ∧ ROk G (Av av as) H a x := by
  obtain ⟨a, ha⟩ := R.al c x h hn
  obtain ⟨y, hy, ok⟩ := R.ok c a ha
  rw [h] at hy
  cases hy
  exact ⟨a, rd.2 a ha, ha, ok⟩
theorem view_rb (R : RSt G av as H st) {d : D} {v : V} {x : P} (rd : RD G av as H d v) (h : view st d = some x) : RB G (Av av as) H x v := by
  cases d with
  | p y =>
    cases h
    exact RB.of rd
  | r c =>
    have h : (match st[c]? with
      | some (.lst l) => some (P.lst l)
      | some (.ins k ns vs) => some (P.obj k ns vs)
      | _ => none) = some x := h
    cases e : st[c]? with
    | none => rw [e] at h; cases h
    | some y =>
      rw [e] at h
      cases y with
      | lst l =>
        cases h
        obtain ⟨a, rfl, _, vs, h1, h2⟩ := R.at_ e (by intro q; cases q) rd
        exact ⟨a, vs, rfl, h1, h2⟩
      | ins k ns l =>
        cases h
        obtain ⟨a, rfl, _, dx, vs, h1, h3, _, h2⟩ := R.at_ e (by intro q; cases q) rd
        exact ⟨a, dx, vs, rfl, h1, h3, h2⟩
      | dead => cases h
theorem views_rb (R : RSt G av as H st) : ∀ {ds : List D} {vs : List V} {xs : List P}, RDs G av as H ds vs → views st ds = some xs → RBs G (Av av as) H xs vs
  | [], vs, xs, h, e => by
    cases e
    exact h
  | d :: r, vs, xs, h, e => by
    obtain ⟨v, w, rfl, h1, h2⟩ := h
    rw [views] at e
    cases e1 : view st d with
    | none => rw [e1] at e; cases e
    | some x =>
      cases e2 : views st r with
      | none => rw [e1, e2] at e; cases e
      | some ys =>
        rw [e1, e2] at e
        cases e
        exact ⟨v, w, rfl, view_rb R h1 e1, views_rb R h2 e2⟩
theorem pures_rp : ∀ {ds : List D} {vs : List V} {xs : List P}, RDs G av as H ds vs → pures ds = some xs → RPs G (Av av as) H xs vs
  | [], vs, xs, h, e => by
    cases e
    exact h
  | .p x :: r, vs, xs, h, e => by
    obtain ⟨v, w, rfl, h1, h2⟩ := h
    obtain ⟨ys, hy, rfl⟩ := Option.map_eq_some_iff.mp (show (pures r).map (x :: ·) = some xs from e)
    exact ⟨v, w, rfl, h1, pures_rp h2 hy⟩
  | .r _ :: r, vs, xs, h, e => by cases e
theorem doPr_inv {f : Pr} {ds : List D} {k : D → So → List (Option Addr) → Hp → Prop} (hk : f.keeps = false) (h : Pst G av W σ k as H (doPr T f ds st)) :
    ∃ ps z, views st ds = some ps ∧ prim T f ps = some z ∧ Pst G av W σ k as H (.ok (.p z) st) := by
  unfold doPr at h
  rw [hk, if_neg Bool.false_ne_true] at h
  cases e1 : views st ds with
  | none => rw [e1] at h; exact h.elim
  | some ps =>
    rw [e1] at h
    dsimp only at h
    cases e2 : prim T f ps with
    | none => rw [e2] at h; exact h.elim
    | some z =>
      rw [e2] at h
      exact ⟨ps, z, rfl, e2, h⟩
theorem doPr_invK {f : Pr} {ds : List D} {k : D → So → List (Option Addr) → Hp → Prop} (hk : f.keeps = true) (h : Pst G av W σ k as H (doPr T f ds st)) :
    ∃ ps z, pures ds = some ps ∧ prim T f ps = some z ∧ Pst G av W σ k as H (.ok (.p z) st) := by
  unfold doPr at h
  rw [hk, if_pos rfl] at h
  cases e1 : pures ds with
  | none => rw [e1] at h; exact h.elim
  | some ps =>
    rw [e1] at h
    dsimp only at h
    cases e2 : prim T f ps with
    | none => rw [e2] at h; exact h.elim
    | some z =>
      rw [e2] at h
      exact ⟨ps, z, rfl, e2, h⟩
/-- a deep value that a primitive made -/
theorem qok_of {z : P} {Q : VK} (R : RSt G av as H st) (h : Pst G av W σ (fun d _ as' H' => ∀ v, RD G av as' H' d v → Q v H') as H (.ok (.p z) st)) : QOk G (Av av as) H z Q :=
  fun v H' g r => h as H' (Le.grow g) (R.grow g) v r
theorem evEs2 {a b : Ex} : evEs T cf [a, b] ρ st = (evE T cf a ρ st).bind fun x st1 => (evE T cf b ρ st1).bind fun y st2 => .ok [x, y] st2 := by
  rw [evEs]
  congr 1
  funext d st1
  rw [evEs]
  cases evE T cf b ρ st1 <;> rfl
theorem evEs1 {a : Ex} : evEs T cf [a] ρ st = (evE T cf a ρ st).bind fun x st1 => .ok [x] st1 := by
  rw [evEs]
  congr 1
theorem bind_assoc {α β γ : Type} (x : Ou α) (f : α → So → Ou β) (g : β → So → Ou γ) : (x.bind f).bind g = x.bind fun a st => (f a st).bind g := by cases x <;> rfl

theorem s_var {i : Nat} {x : Str} {pos : Pos} (h : PE X (.Name x pos) (tVar i)) : PE X (.Name x pos) (TE_ G T cf W (.va i)) := by
  refine h.imp fun σ H Q ⟨av, as, ρ, st, R, E, q⟩ => ?_
  have q : Pst G av W σ (fun d _ as' H' => ∀ v, RD G av as' H' d v → Q v H') as H (match ρ[i]? with
    | some (some d) => .ok d st
    | _ => .bad) := q
  cases e : ρ[i]? with
  | none => rw [e] at q; exact q.elim
  | some o =>
    rw [e] at q
    cases o with
    | none => exact q.elim
    | some d =>
      obtain ⟨v, hv, rd⟩ := E.at_ i d e
      exact ⟨v, hv, q.now R v rd⟩
theorem s_con {e : Expr} {v : V} {x : P} (h : PE X e (tC v)) (hx : ∀ av H, RP G av H x v) : PE X e (TE_ G T cf W (.co x)) :=
  h.imp fun σ H Q ⟨av, as, ρ, st, R, E, q⟩ => Pst.now q R v (hx _ _)

variable {a b c : Expr} {ea eb ec : Ex} {pos : Pos}
theorem two_ops {r : R2} {f : Pr} {g : P → P → Option P} (hf : f.keeps = false) (hg : prim T f = bin g)
    (ok : ∀ (av : Addr → Prop) (H : Hp) (x y : V) (a b z : P), Tk av H → RB G av H a x → RB G av H b y → g a b = some z → ∀ Q : VK, QOk G av H z Q → r x y H Q) :
    ∀ σ H Q, TE_ G T cf W (.pr f [ea, eb]) σ H Q → tOp r (TE_ G T cf W ea) (TE_ G T cf W eb) σ H Q := by
  intro σ H Q ⟨av, as, ρ, st, R, E, q⟩
  rw [evE, evEs2, bind_assoc] at q
  refine te_step R E q fun d1 st1 as1 H1 v1 l1 R1 E1 rd1 q1 => ?_
  rw [bind_assoc] at q1
  refine te_step R1 E1 q1 fun d2 st2 as2 H2 v2 l2 R2 E2 rd2 q2 => ?_
  obtain ⟨ps, z, hv, hp, q3⟩ := doPr_inv hf q2
  have hb := views_rb R2 (ds := [d1, d2]) (vs := [v1, v2]) ⟨v1, _, rfl, rd1.mono l2, v2, _, rfl, rd2, rfl⟩ hv
  rw [hg] at hp
  obtain ⟨x, y, rfl, hp⟩ := bin_inv hp
  obtain ⟨u1, u2, e, h1, h2⟩ := rbs2 hb
  cases e
  exact ok (Av av as2) H2 v1 v2 x y z R2.tkA h1 h2 hp Q (qok_of R2 q3)
theorem one_op {r : V → Hp → VK → Prop} {f : Pr} {g : P → Option P} (hf : f.keeps = false) (hg : prim T f = un g)
    (ok : ∀ (av : Addr → Prop) (H : Hp) (x : V) (a z : P), Tk av H → RB G av H a x → g a = some z → ∀ Q : VK, QOk G av H z Q → r x H Q) :
    ∀ σ H Q, TE_ G T cf W (.pr f [ea]) σ H Q → TE_ G T cf W ea σ H fun x H1 => r x H1 Q := by
  intro σ H Q ⟨av, as, ρ, st, R, E, q⟩
  rw [evE, evEs1, bind_assoc] at q
  refine te_step R E q fun d1 st1 as1 H1 v1 l1 R1 E1 rd1 q1 => ?_
  obtain ⟨ps, z, hv, hp, q3⟩ := doPr_inv hf q1
  have hb := views_rb R1 (ds := [d1]) (vs := [v1]) ⟨v1, _, rfl, rd1, rfl⟩ hv
  rw [hg] at hp
  obtain ⟨x, rfl, hp⟩ := un_inv hp
  obtain ⟨u1, e, h1⟩ := rbs1 hb
  cases e
  exact ok (Av av as1) H1 v1 x z R1.tkA h1 hp Q (qok_of R1 q3)
theorem s_op {op : Operator} {o : O2} (hK : G.K = X.K) (h : OpS X (binaryOp op) o) (ha : PE X a (TE_ G T cf W ea)) (hb : PE X b (TE_ G T cf W eb)) :
    PE X (.BinOp a op b pos) (TE_ G T cf W (.pr (.op o) [ea, eb])) := by
  obtain ⟨r, hr, ok⟩ := h
  exact (pe_op hr ha hb).imp (two_ops rfl rfl fun av H x y a b z => ok G av H x y a b z hK)
theorem s_cmp {op : CmpOp} {o : O2} (hK : G.K = X.K) (h : OpS X (compareOp op) o) (ha : PE X a (TE_ G T cf W ea)) (hb : PE X b (TE_ G T cf W eb)) (hm : behindInMarks op b = false) :
    PE X (.Compare a [op] [b] pos) (TE_ G T cf W (.pr (.op o) [ea, eb])) := by
  obtain ⟨r, hr, ok⟩ := h
  exact (pe_cmpR hr ha hb hm).imp (two_ops rfl rfl fun av H x y a b z => ok G av H x y a b z hK)
theorem s_neg (ha : PE X a (TE_ G T cf W ea)) : PE X (.UnaryOp .USub a pos) (TE_ G T cf W (.pr .neg [ea])) := by
  refine (pe_un un_neg ha).imp (one_op rfl rfl fun av H x a z tk h1 hz Q q => ?_)
  cases a <;> first | (cases hz; done) | skip
  case int i =>
    cases hz
    exact ⟨i, h1, q.now rfl⟩

/-! ### arguments -/
theorem s_nil : PA X [] (TA_ G T cf W []) := pa_nil.imp fun σ H Q ⟨av, as, ρ, st, R, E, q⟩ => Pst.now q R [] rfl
theorem star_cons {e : Expr} {es : List Expr} {env : Env} (h : ∀ x p, e ≠ .Starred x p) : starEach (e :: es) env = (false, eval e env) :: starEach es env := by
  cases e <;> first | rfl | exact absurd rfl (h _ _)
theorem s_cons {es : List Expr} {ees : List Ex} (ha : PE X a (TE_ G T cf W ea)) (hs : PA X es (TA_ G T cf W ees)) (h : ∀ x p, a ≠ .Starred x p) : PA X (a :: es) (TA_ G T cf W (ea :: ees)) := by
  refine (pa_cons ha hs (star_cons h)).imp fun σ H Q ⟨av, as, ρ, st, R, E, q⟩ => ?_
  rw [evEs] at q
  refine te_step R E q fun d1 st1 as1 H1 v1 l1 R1 E1 rd1 q1 => ?_
  refine ta_step R1 E1 q1 fun ds st2 as2 H2 vs l2 R2 E2 rds q2 => ?_
  exact q2.now R2 (v1 :: vs) ⟨v1, vs, rfl, rd1.mono l2, rds⟩

/-! ### displays -/
theorem s_tup {es : List Expr} {ees : List Ex} {k : Nat} (ha : PA X es (TA_ G T cf W ees)) : PE X (.Tuple es k pos) (TE_ G T cf W (.pr .tup ees)) := by
  refine (pe_tup ha).imp fun σ H Q ⟨av, as, ρ, st, R, E, q⟩ => ?_
  rw [evE] at q
  refine ta_step R E q fun ds st1 as1 H1 vs l1 R1 E1 rds q1 => ?_
  obtain ⟨ps, z, hv, hp, q3⟩ := doPr_invK rfl q1
  have hps := pures_rp rds hv
  obtain ⟨hl, rfl⟩ := some_if (show tupP ps = some z from hp)
  exact ⟨by rw [← hps.len]; exact fits' hl, fun p hn => qok_of R1 q3 _ _ (grow_new hn) (new_tup R1.tkA hn hps)⟩
theorem s_lst {es : List Expr} {ees : List Ex} (ha : PA X es (TA_ G T cf W ees)) : PE X (.List es pos) (TE_ G T cf W (.pr .lst ees)) := by
  refine (pe_lst ha).imp fun σ H Q ⟨av, as, ρ, st, R, E, q⟩ => ?_
  rw [evE] at q
  refine ta_step R E q fun ds st1 as1 H1 vs l1 R1 E1 rds q1 => ?_
  obtain ⟨ps, z, hv, hp, q3⟩ := doPr_invK rfl q1
  have hps := pures_rp rds hv
  obtain ⟨hl, rfl⟩ := some_if (show lstP ps = some z from hp)
  exact ⟨by rw [← hps.len]; exact fits' hl, fun p hn => qok_of R1 q3 _ _ (grow_new hn) (new_lst R1.tkA hn hps)⟩

/-! ### built-in functions -/
theorem s_call {f : Value} {p : Pr} {g : List P → Option P} {es : List Expr} {ees : List Ex} {e : Expr} (hK : G.K = X.K) (hf : p.keeps = false) (hg : prim T p = g) (h : CallS X f g)
    (hp : ∀ r, CallR X f r → PE X e (tCB r (TA_ G T cf W ees))) : PE X e (TE_ G T cf W (.pr p ees)) := by
  obtain ⟨r, hr, ok⟩ := h
  refine (hp r hr).imp fun σ H Q ⟨av, as, ρ, st, R, E, q⟩ => ?_
  rw [evE] at q
  refine ta_step R E q fun ds st1 as1 H1 vs l1 R1 E1 rds q1 => ?_
  obtain ⟨ps, z, hv, hp, q3⟩ := doPr_inv hf q1
  rw [hg] at hp
  exact ok G (Av av as1) H1 vs ps z hK R1.tkA (views_rb R1 rds hv) hp Q (qok_of R1 q3)

/-! ### truth -/
theorem tru_of {x : P} {v : V} {k : Bool} (h : RB G av H x v) (e : truP x = some k) : TruV G.K v H k := by
  cases x <;> first | (cases e; done) | skip
  case non => cases e; rw [show v = .non from h]; rfl
  case bl x => cases e; rw [show v = .bl k from h]; rfl
  case int i => cases e; rw [show v = .int i from h]; rfl
  case str s =>
    obtain ⟨h1, rfl⟩ := some_if e
    rw [show v = .str s from h]
    refine ⟨fits h1, ?_⟩
    show (s.length != 0) = ((s.length : Int) != 0)
    cases s.length <;> rfl
  case tup l =>
    cases e
    obtain ⟨a, vs, rfl, h1, h2⟩ := sq_tup h
    refine .inr (.inl ⟨vs, h1, ?_⟩)
    have := h2.len
    cases l <;> cases vs <;> first | rfl | (simp at this)
  case lst l =>
    cases e
    obtain ⟨a, vs, rfl, h1, h2⟩ := seq_l h
    refine .inl ⟨vs, h1, ?_⟩
    have := h2.len
    cases l <;> cases vs <;> first | rfl | (simp at this)
  case dic ks l =>
    cases e
    obtain ⟨a, kvs, rfl, h1, _, h3, h2⟩ := h
    refine .inr (.inr ⟨kvs, h1, ?_⟩)
    cases kvs with
    | nil => rw [← h3]; rfl
    | cons q r => rw [← h3]; rfl
theorem truth_inv {d : D} {k : Bool → So → List (Option Addr) → Hp → Prop} (h : Pst G av W σ k as H (match (view st d).bind truP with
  | some b => Ou.ok b st
  | none => .bad)) : ∃ b, (view st d).bind truP = some b ∧ Pst G av W σ k as H (.ok b st) := by
  cases e : (view st d).bind truP with
  | none => rw [e] at h; exact h.elim
  | some b => rw [e] at h; exact ⟨b, rfl, h⟩
theorem trud (R : RSt G av as H st) {d : D} {v : V} {b : Bool} (rd : RD G av as H d v) (h : (view st d).bind truP = some b) : TruV G.K v H b := by
  obtain ⟨x, hx, hb⟩ := Option.bind_eq_some_iff.mp h
  exact tru_of (view_rb R rd hx) hb
/-- an expression's truth as a test -/
theorem t_plain (hK : G.K = X.K) (ha : PE X a (TE_ G T cf W ea)) (he : ∀ whole, isTrue a X.env whole = (do let v ← whole; standAt a.pos; holding [v] (truthy v))) : PT X a (TT_ G T cf W ea) := by
  refine (pt_truth ha he).imp fun σ H Q ⟨av, as, ρ, st, R, E, q⟩ => ?_
  unfold evT at q
  refine te_step R E q fun d st1 as1 H1 v l1 R1 E1 rd q1 => ?_
  obtain ⟨b, hb, q2⟩ := truth_inv q1
  rw [← hK]
  exact ⟨b, trud R1 rd hb, q2.now R1⟩

/-! ### and, or, not, a if c else b -/
variable {rest : List Expr}
theorem s_and (hK : G.K = X.K) (ha : PE X a (TE_ G T cf W ea)) (hb : PE X (.BoolOp .And (b :: rest) pos) (TE_ G T cf W eb)) : PE X (.BoolOp .And (a :: b :: rest) pos) (TE_ G T cf W (.an ea eb)) := by
  refine (pe_andT ha hb).imp fun σ H Q ⟨av, as, ρ, st, R, E, q⟩ => ?_
  rw [evE] at q
  refine te_step R E q fun d st1 as1 H1 v l1 R1 E1 rd q1 => ?_
  cases e : (view st1 d).bind truP with
  | none => rw [e] at q1; exact q1.elim
  | some k =>
    rw [e] at q1
    refine ⟨k, by rw [← hK]; exact trud R1 rd e, ?_⟩
    cases k with
    | true => exact ⟨av, as1, ρ, st1, R1, E1, q1⟩
    | false => exact q1.now R1 v rd
theorem s_or (hK : G.K = X.K) (ha : PE X a (TE_ G T cf W ea)) (hb : PE X (.BoolOp .Or (b :: rest) pos) (TE_ G T cf W eb)) : PE X (.BoolOp .Or (a :: b :: rest) pos) (TE_ G T cf W (.or ea eb)) := by
  refine (pe_orT ha hb).imp fun σ H Q ⟨av, as, ρ, st, R, E, q⟩ => ?_
  rw [evE] at q
  refine te_step R E q fun d st1 as1 H1 v l1 R1 E1 rd q1 => ?_
  cases e : (view st1 d).bind truP with
  | none => rw [e] at q1; exact q1.elim
  | some k =>
    rw [e] at q1
    refine ⟨k, by rw [← hK]; exact trud R1 rd e, ?_⟩
    cases k with
    | true => exact q1.now R1 v rd
    | false => exact ⟨av, as1, ρ, st1, R1, E1, q1⟩
theorem s_one {op : BoolOp} (ha : PE X a (TE_ G T cf W ea)) : PE X (.BoolOp op [a] pos) (TE_ G T cf W ea) := pe_one ha
theorem s_not (hK : G.K = X.K) (ha : PE X a (TE_ G T cf W ea)) : PE X (.UnaryOp .Not a pos) (TE_ G T cf W (.no ea)) := by
  refine (pe_notT ha).imp fun σ H Q ⟨av, as, ρ, st, R, E, q⟩ => ?_
  rw [evE] at q
  refine te_step R E q fun d st1 as1 H1 v l1 R1 E1 rd q1 => ?_
  cases e : (view st1 d).bind truP with
  | none => rw [e] at q1; exact q1.elim
  | some k =>
    rw [e] at q1
    exact ⟨k, by rw [← hK]; exact trud R1 rd e, q1.now R1 _ rfl⟩
theorem evE_if {c a b : Ex} : evE T cf (.if_ c a b) ρ st = (evT T cf c ρ st).bind fun k st1 => if k then evE T cf a ρ st1 else evE T cf b ρ st1 := by
  rw [evE]
  unfold evT
  cases evE T cf c ρ st with
  | ok d st1 =>
    show (match (view st1 d).bind truP with | some true => _ | some false => _ | none => _) = Ou.bind (match (view st1 d).bind truP with | some b => Ou.ok b st1 | none => .bad) _
    cases (view st1 d).bind truP with
    | none => rfl
    | some k => cases k <;> rfl
  | ex _ _ _ _ => rfl
  | bad => rfl
theorem evT_an {a b : Ex} : evT T cf (.an a b) ρ st = (evT T cf a ρ st).bind fun k st1 => if k then evT T cf b ρ st1 else .ok false st1 := by
  unfold evT
  rw [evE]
  cases evE T cf a ρ st with
  | ok d st1 =>
    show Ou.bind (match (view st1 d).bind truP with | some true => _ | some false => _ | none => _) _ = Ou.bind (match (view st1 d).bind truP with | some b => Ou.ok b st1 | none => .bad) _
    cases e : (view st1 d).bind truP with
    | none => rfl
    | some k =>
      cases k with
      | true => rfl
      | false =>
        show (match (view st1 d).bind truP with | some b => Ou.ok b st1 | none => .bad) = _
        rw [e]
        rfl
  | ex _ _ _ _ => rfl
  | bad => rfl
theorem evT_or {a b : Ex} : evT T cf (.or a b) ρ st = (evT T cf a ρ st).bind fun k st1 => if k then .ok true st1 else evT T cf b ρ st1 := by
  unfold evT
  rw [evE]
  cases evE T cf a ρ st with
  | ok d st1 =>
    show Ou.bind (match (view st1 d).bind truP with | some true => _ | some false => _ | none => _) _ = Ou.bind (match (view st1 d).bind truP with | some b => Ou.ok b st1 | none => .bad) _
    cases e : (view st1 d).bind truP with
    | none => rfl
    | some k =>
      cases k with
      | false => rfl
      | true =>
        show (match (view st1 d).bind truP with | some b => Ou.ok b st1 | none => .bad) = _
        rw [e]
        rfl
  | ex _ _ _ _ => rfl
  | bad => rfl
theorem evT_no {a : Ex} : evT T cf (.no a) ρ st = (evT T cf a ρ st).bind fun k st1 => .ok (!k) st1 := by
  unfold evT
  rw [evE]
  cases evE T cf a ρ st with
  | ok d st1 =>
    show Ou.bind (match (view st1 d).bind truP with | some b => _ | none => _) _ = Ou.bind (match (view st1 d).bind truP with | some b => Ou.ok b st1 | none => .bad) _
    cases (view st1 d).bind truP with
    | none => rfl
    | some k => rfl
  | ex _ _ _ _ => rfl
  | bad => rfl
theorem t_and (ha : PT X a (TT_ G T cf W ea)) (hb : PW X (.BoolOp .And (b :: rest) pos) (TT_ G T cf W eb)) : PW X (.BoolOp .And (a :: b :: rest) pos) (TT_ G T cf W (.an ea eb)) := by
  refine (pw_and ha hb).imp fun σ H Q ⟨av, as, ρ, st, R, E, q⟩ => ?_
  rw [evT_an] at q
  refine tt_step R E q fun k st1 as1 H1 l1 R1 E1 q1 => ?_
  cases k with
  | true => exact ⟨av, as1, ρ, st1, R1, E1, q1⟩
  | false => exact q1.now R1
theorem t_or (ha : PT X a (TT_ G T cf W ea)) (hb : PW X (.BoolOp .Or (b :: rest) pos) (TT_ G T cf W eb)) : PW X (.BoolOp .Or (a :: b :: rest) pos) (TT_ G T cf W (.or ea eb)) := by
  refine (pw_or ha hb).imp fun σ H Q ⟨av, as, ρ, st, R, E, q⟩ => ?_
  rw [evT_or] at q
  refine tt_step R E q fun k st1 as1 H1 l1 R1 E1 q1 => ?_
  cases k with
  | true => exact q1.now R1
  | false => exact ⟨av, as1, ρ, st1, R1, E1, q1⟩
theorem t_not (ha : PT X a (TT_ G T cf W ea)) : PT X (.UnaryOp .Not a pos) (TT_ G T cf W (.no ea)) := by
  refine (pt_not ha).imp fun σ H Q ⟨av, as, ρ, st, R, E, q⟩ => ?_
  rw [evT_no] at q
  exact tt_step R E q fun k st1 as1 H1 l1 R1 E1 q1 => q1.now R1
theorem s_if (hc : PT X c (TT_ G T cf W ec)) (ha : PE X a (TE_ G T cf W ea)) (hb : PE X b (TE_ G T cf W eb)) : PE X (.IfExp c a b pos) (TE_ G T cf W (.if_ ec ea eb)) := by
  refine (pe_ifExp hc ha hb).imp fun σ H Q ⟨av, as, ρ, st, R, E, q⟩ => ?_
  rw [evE_if] at q
  refine tt_step R E q fun k st1 as1 H1 l1 R1 E1 q1 => ?_
  cases k with
  | true => exact ⟨av, as1, ρ, st1, R1, E1, q1⟩
  | false => exact ⟨av, as1, ρ, st1, R1, E1, q1⟩

/-! ### comparisons as tests; chains -/
theorem op2_bl {o : O2} {a b z : P} (ho : o ∈ [O2.eq, .ne, .lt, .le, .gt, .ge, .isin, .nin, .is_, .isn]) (h : op2 o a b = some z) : ∃ k, z = .bl k := by
  have i : ∀ {f : Int → Int → Bool}, intP (fun i j => some (.bl (f i j))) a b = some z → ∃ k, z = .bl k := fun {f} h => by
    obtain ⟨i, j, _, _, e⟩ := intP_inv h
    cases e
    exact ⟨_, rfl⟩
  have m : ∀ {o : Option Bool} {f : Bool → Bool}, o.map (fun k => P.bl (f k)) = some z → ∃ k, z = .bl k := fun {o f} h => by
    obtain ⟨k, _, rfl⟩ := Option.map_eq_some_iff.mp h
    exact ⟨_, rfl⟩
  cases o with
  | eq => exact m (f := fun k => k) h
  | ne => exact m h
  | lt => exact i h
  | le => exact i h
  | gt => exact i h
  | ge => exact i h
  | isin => exact m (f := fun k => k) h
  | nin => exact m h
  | is_ => obtain ⟨_, rfl⟩ := some_if h; exact ⟨_, rfl⟩
  | isn => obtain ⟨_, rfl⟩ := some_if h; exact ⟨_, rfl⟩
  | _ => simp at ho
theorem doPr_bind {β : Type} {f : Pr} {ds : List D} {k : β → So → List (Option Addr) → Hp → Prop} {g : D → So → Ou β} (hk : f.keeps = false) (h : Pst G av W σ k as H ((doPr T f ds st).bind g)) :
    ∃ ps z, views st ds = some ps ∧ prim T f ps = some z ∧ Pst G av W σ k as H (g (.p z) st) := by
  unfold doPr at h
  rw [hk, if_neg Bool.false_ne_true] at h
  cases e1 : views st ds with
  | none => rw [e1] at h; exact h.elim
  | some ps =>
    rw [e1] at h
    dsimp only at h
    cases e2 : prim T f ps with
    | none => rw [e2] at h; exact h.elim
    | some z =>
      rw [e2] at h
      exact ⟨ps, z, rfl, e2, h⟩
def cmpOps : List O2 := [.eq, .ne, .lt, .le, .gt, .ge, .isin, .nin, .is_, .isn]
/-- one comparison of two values that stand -/
theorem cmp_val {β : Type} {op : CmpOp} {o : O2} {r : R2} {d1 d2 : D} {v1 v2 : V} {k : β → So → List (Option Addr) → Hp → Prop} {g : D → So → Ou β} {Q : VK} (hK : G.K = X.K) (ho : o ∈ cmpOps)
    (ok : ∀ (G : Gx) (av : Addr → Prop) (H : Hp) (x y : V) (a b z : P), G.K = X.K → Tk av H → RB G av H a x → RB G av H b y → op2 o a b = some z → ∀ Q : VK, QOk G av H z Q → r x y H Q)
    (R : RSt G av as H st) (r1 : RD G av as H d1 v1) (r2 : RD G av as H d2 v2) (h : Pst G av W σ k as H ((doPr T (.op o) [d1, d2] st).bind g))
    (go : ∀ b H', Gw H H' → Pst G av W σ k as H' (g (.p (.bl b)) st) → Q (.bl b) H') : r v1 v2 H Q := by
  obtain ⟨ps, z, hv, hp, q⟩ := doPr_bind rfl h
  have hB := views_rb R (ds := [d1, d2]) (vs := [v1, v2]) ⟨v1, _, rfl, r1, v2, _, rfl, r2, rfl⟩ hv
  obtain ⟨x, y, rfl, hp⟩ := bin_inv (show bin (op2 o) ps = some z from hp)
  obtain ⟨u1, u2, e, h1, h2⟩ := rbs2 hB
  cases e
  obtain ⟨b, rfl⟩ := op2_bl ho hp
  refine ok G (Av av as) H v1 v2 x y _ hK R.tkA h1 h2 hp _ fun v H' gw rv => ?_
  rw [show v = .bl b from rv]
  exact go b H' gw (q.shift (Le.grow gw))
theorem t_cmp {op : CmpOp} {o : O2} (hK : G.K = X.K) (h : OpS X (compareOp op) o) (ho : o ∈ cmpOps) (ha : PE X a (TE_ G T cf W ea)) (hb : PE X b (TE_ G T cf W eb)) (hm : behindInMarks op b = false) :
    PT X (.Compare a [op] [b] pos) (TT_ G T cf W (.pr (.op o) [ea, eb])) := by
  obtain ⟨r, hr, ok⟩ := h
  refine (pt_cmpR hr ha hb hm).imp fun σ H Q ⟨av, as, ρ, st, R, E, q⟩ => ?_
  unfold evT at q
  rw [evE, evEs2, bind_assoc, bind_assoc] at q
  refine te_step R E q fun d1 st1 as1 H1 v1 l1 R1 E1 rd1 q1 => ?_
  rw [bind_assoc] at q1
  refine te_step R1 E1 q1 fun d2 st2 as2 H2 v2 l2 R2 E2 rd2 q2 => ?_
  exact cmp_val (op := op) hK ho ok R2 (rd1.mono l2) rd2 q2 fun b H' gw q => ⟨b, rfl, q.now (R2.grow gw)⟩
/-- the chain's two links -/
theorem chain_vals {op op' : CmpOp} {o o' : O2} (hK : G.K = X.K) (h : OpS X (compareOp op) o) (h' : OpS X (compareOp op') o') (ho : o ∈ cmpOps) (ho' : o' ∈ cmpOps) :
    ∃ r r', OpR X (compareOp op) r ∧ OpR X (compareOp op') r' ∧ (∀ σ H Q, TE_ G T cf W (.ch o o' ea eb ec) σ H Q → tChain r r' (TE_ G T cf W ea) (TE_ G T cf W eb) (TE_ G T cf W ec) σ H Q) ∧
      ∀ σ H Q, TT_ G T cf W (.ch o o' ea eb ec) σ H Q → tTest (tChain r r' (TE_ G T cf W ea) (TE_ G T cf W eb) (TE_ G T cf W ec)) σ H Q := by
  obtain ⟨r, hr, ok⟩ := h
  obtain ⟨r', hr', ok'⟩ := h'
  refine ⟨r, r', hr, hr', fun σ H Q ⟨av, as, ρ, st, R, E, q⟩ => ?_, fun σ H Q ⟨av, as, ρ, st, R, E, q⟩ => ?_⟩
  · rw [evE] at q
    refine te_step R E q fun d1 st1 as1 H1 v1 l1 R1 E1 rd1 q1 => ?_
    refine te_step R1 E1 q1 fun d2 st2 as2 H2 v2 l2 R2 E2 rd2 q2 => ?_
    refine cmp_val (op := op) hK ho ok R2 (rd1.mono l2) rd2 q2 fun b H' gw q => ⟨b, rfl, ?_⟩
    cases b with
    | false => exact q.now (R2.grow gw) _ rfl
    | true =>
      refine te_step (R2.grow gw) (E2.mono (Le.grow gw)) q fun d3 st3 as3 H3 v3 l3 R3 E3 rd3 q3 => ?_
      have q3 := show Pst G av W σ _ as3 H3 ((doPr T (.op o') [d2, d3] st3).bind fun d st => .ok d st) by
        cases e : doPr T (.op o') [d2, d3] st3 <;> (rw [e] at q3; exact q3)
      exact cmp_val (op := op') hK ho' ok' R3 ((rd2.mono (Le.grow gw)).mono l3) rd3 q3 fun b H'' gw' q => q.now (R3.grow gw') _ rfl
  · unfold evT at q
    rw [evE, bind_assoc] at q
    refine te_step R E q fun d1 st1 as1 H1 v1 l1 R1 E1 rd1 q1 => ?_
    rw [bind_assoc] at q1
    refine te_step R1 E1 q1 fun d2 st2 as2 H2 v2 l2 R2 E2 rd2 q2 => ?_
    rw [bind_assoc] at q2
    refine cmp_val (op := op) hK ho ok R2 (rd1.mono l2) rd2 q2 fun b H' gw q => ⟨b, rfl, ?_⟩
    cases b with
    | false => exact ⟨false, rfl, Pst.now (k := fun b _ _ H' => Q b H') (a := false) q (R2.grow gw)⟩
    | true =>
      have q := show Pst G av W σ (fun b _ _ H' => Q b H') as2 H' (((evE T cf ec ρ st2).bind fun z st4 => doPr T (.op o') [d2, z] st4).bind fun d st1 => match (view st1 d).bind truP with
        | some b => Ou.ok b st1
        | none => .bad) from q
      rw [bind_assoc] at q
      refine te_step (R2.grow gw) (E2.mono (Le.grow gw)) q fun d3 st3 as3 H3 v3 l3 R3 E3 rd3 q3 => ?_
      exact cmp_val (op := op') hK ho' ok' R3 ((rd2.mono (Le.grow gw)).mono l3) rd3 q3 fun b H'' gw' q => ⟨b, rfl, q.now (R3.grow gw')⟩
end
end Dp
set_option Elab.async false
set_option linter.all false
set_option maxRecDepth 100000
set_option maxHeartbeats 200000
/-! Dp, part 6: subscripts, slices, cells, what is walked, comprehensions. -/
namespace Dp
open PySem L2

section
variable {X : Cx} {G : Gx} {T : Tab} {cf : Cf} {W : WX} {av : Addr → Prop} {σ : L2.St} {as : List (Option Addr)} {H : Hp} {st : So} {ρ : En}
variable {a b c : Expr} {ea eb ec : Ex} {pos : Pos}

/-! ### subscripts -/
theorem atI_rp {l : List P} {vs : List V} {i : Int} {z : P} (h : RPs G av H l vs) (e : ixI l i = some z) : ∃ v, atI vs i = some v ∧ RP G av H z v := by
  unfold ixI atI at e
  obtain ⟨j, hj, e⟩ := Option.bind_eq_some_iff.mp e
  obtain ⟨v, hv, rv⟩ := h.get e
  refine ⟨v, ?_, rv⟩
  unfold atI
  rw [← h.len, hj]
  exact hv
theorem ix_ok {x y : V} {p q z : P} (hK : G.K = X.K) (hx : RB G av H p x) (hy : RB G av H q y) (h : ixP p q = some z) {Q : VK} (k : QOk G av H z Q) : rIx X.K x y H Q := by
  cases p <;> first | (cases h; done) | (cases q <;> cases h; done) | skip
  case lst l =>
    cases q <;> first | (cases h; done) | skip
    case int i =>
      obtain ⟨a, vs, rfl, h1, h2⟩ := seq_l hx
      obtain ⟨v, hv, rv⟩ := atI_rp h2 h
      rw [hK] at h1
      exact .inl ⟨a, vs, i, v, rfl, hy, h1, hv, k.now rv⟩
  case fro l =>
    cases q <;> first | (cases h; done) | skip
    case int i =>
      obtain ⟨a, vs, rfl, h1, h2⟩ := seq_f hx
      obtain ⟨v, hv, rv⟩ := atI_rp h2 h
      rw [hK] at h1
      exact .inl ⟨a, vs, i, v, rfl, hy, h1, hv, k.now rv⟩
  case tup l =>
    cases q <;> first | (cases h; done) | skip
    case int i =>
      obtain ⟨a, vs, rfl, h1, h2⟩ := sq_tup hx
      obtain ⟨v, hv, rv⟩ := atI_rp h2 h
      rw [hK] at h1
      exact .inr (.inl ⟨a, vs, i, v, rfl, hy, h1, hv, k.now rv⟩)
  case str s =>
    cases q <;> first | (cases h; done) | skip
    case int i =>
      rw [ixP] at h
      split at h
      · rename_i hl
        obtain ⟨c, hc, rfl⟩ := Option.map_eq_some_iff.mp h
        exact .inr (.inr ⟨s, i, c, hx, hy, fits hl, hc, k.now rfl⟩)
      · cases h
def isSl : Expr → Bool
  | .Slice .. => true
  | _ => false
theorem plain_ix (h : isSl b = false) : PlainIx b := by
  intro o i
  cases b <;> first | rfl | (cases h; done)
theorem s_ix (hK : G.K = X.K) (ha : PE X a (TE_ G T cf W ea)) (hb : PE X b (TE_ G T cf W eb)) (h : isSl b = false) : PE X (.Subscript a b pos) (TE_ G T cf W (.pr .ix [ea, eb])) :=
  (pe_ix ix_seq ha hb (plain_ix h)).imp (two_ops rfl rfl fun av H x y p q z tk hx hy hz Q k => ix_ok hK hx hy hz k)

/-! ### slices -/
theorem str_cut {s : Str} {lo hi : Option Int} : cutS s lo hi = ⟨(cut s.cps.toList lo hi).toArray⟩ := by
  unfold cutS cut
  rw [Array.length_toList]
  rfl
theorem cut_rps {l : List P} {vs : List V} {lo hi : Option Int} (h : RPs G av H l vs) : RPs G av H (cut l lo hi) (cutV vs lo hi) := by
  unfold cut cutV
  rw [h.len]
  exact (h.drop _).take _
def rCut (K : PySem.W.Frag) : V → Option Int → Option Int → Hp → VK → Prop := fun x lo hi H Q => rSlS x lo hi H Q ∨ rSlL K x lo hi H Q ∨ rSlA K x lo hi H Q
theorem sl_cut : SlR X (rCut X.K) := SlR.or sl_str (SlR.or sl_list sl_tupA)
theorem cut_all {l : List V} {lo hi : Option Int} (h1 : HT.sIx l.length 0 lo = 0) (h2 : HT.sIx l.length l.length hi = l.length) : cutV l lo hi = l := by
  unfold cutV
  rw [h1, h2, List.drop_zero, Nat.sub_zero, List.take_length]
theorem cut_ok {x : V} {p z : P} {lo hi : Option Int} (hK : G.K = X.K) (tk : Tk av H) (hx : RB G av H p x) (h : cutP p lo hi = some z) {Q : VK} (k : QOk G av H z Q) : rCut X.K x lo hi H Q := by
  cases p <;> first | (cases h; done) | skip
  case str s =>
    obtain ⟨hl, rfl⟩ := some_if (show (if s.length ≤ big then some (P.str ⟨(cut s.cps.toList lo hi).toArray⟩) else none) = some z from h)
    exact .inl ⟨s, hx, fits hl, by rw [str_cut]; exact k.now rfl⟩
  case lst l =>
    cases h
    obtain ⟨a, vs, rfl, h1, h2⟩ := seq_l hx
    rw [hK] at h1
    exact .inr (.inl ⟨a, vs, rfl, h1, fun p hp => k _ _ (grow_new hp) (new_lst tk hp (cut_rps h2))⟩)
  case fro l =>
    cases h
    obtain ⟨a, vs, rfl, h1, h2⟩ := seq_f hx
    rw [hK] at h1
    exact .inr (.inl ⟨a, vs, rfl, h1, fun p hp => k _ _ (grow_new hp) (new_lst tk hp (cut_rps h2))⟩)
  case tup l =>
    cases h
    have hx' : RP G av H (.tup l) x := hx
    obtain ⟨a, vs, rfl, h1, h2⟩ := sq_tup hx
    rw [hK] at h1
    refine .inr (.inr ⟨a, vs, rfl, h1, fun ⟨e1, e2⟩ => k.now ?_, fun _ p hp => k _ _ (grow_new hp) (new_tup tk hp (cut_rps h2))⟩)
    have e : cut l lo hi = l := by
      unfold cut
      rw [h2.len, e1, e2, List.drop_zero, Nat.sub_zero, ← h2.len, List.take_length]
    rw [e]
    exact hx'
/-- the part of a slice that is left out or an int -/
theorem sl_end {p z : P} {x : V} {lo hi : Option Int} {d : D} (hK : G.K = X.K) (R : RSt G av as H st) (rd : RD G av as H d x) (hv : view st d = some p) (h : cutP p lo hi = some z)
    {Q : VK} (q : Pst G av W σ (fun d _ as' H' => ∀ v, RD G av as' H' d v → Q v H') as H (.ok (.p z) st)) : rCut X.K x lo hi H Q :=
  cut_ok hK R.tkA (view_rb R rd hv) h (qok_of R q)
theorem view_int {d : D} {i : Int} (h : view st d = some (.int i)) : d = .p (.int i) := by
  cases d with
  | p x => cases h; rfl
  | r c =>
    have h : (match st[c]? with
      | some (.lst l) => some (P.lst l)
      | some (.ins k ns vs) => some (P.obj k ns vs)
      | _ => none) = some (.int i) := h
    cases e : st[c]? with
    | none => rw [e] at h; cases h
    | some y => rw [e] at h; cases y <;> cases h
theorem views1 {d : D} {ps : List P} (h : views st [d] = some ps) : ∃ x, ps = [x] ∧ view st d = some x := by
  rw [views] at h
  cases e : view st d with
  | none => rw [e] at h; cases h
  | some x => rw [e] at h; cases h; exact ⟨x, rfl, rfl⟩
theorem views2 {d e : D} {ps : List P} (h : views st [d, e] = some ps) : ∃ x y, ps = [x, y] ∧ view st d = some x ∧ view st e = some y := by
  rw [views] at h
  cases e1 : view st d with
  | none => rw [e1] at h; cases h
  | some x =>
    cases e2 : views st [e] with
    | none => rw [e1, e2] at h; cases h
    | some ys =>
      obtain ⟨y, rfl, hy⟩ := views1 e2
      rw [e1, e2] at h
      cases h
      exact ⟨x, y, rfl, rfl, hy⟩
theorem views3 {d e f : D} {ps : List P} (h : views st [d, e, f] = some ps) : ∃ x y z, ps = [x, y, z] ∧ view st d = some x ∧ view st e = some y ∧ view st f = some z := by
  rw [views] at h
  cases e1 : view st d with
  | none => rw [e1] at h; cases h
  | some x =>
    cases e2 : views st [e, f] with
    | none => rw [e1, e2] at h; cases h
    | some ys =>
      obtain ⟨y, z, rfl, hy, hz⟩ := views2 e2
      rw [e1, e2] at h
      cases h
      exact ⟨x, y, z, rfl, rfl, hy, hz⟩
theorem s_sl10 {p2 : Pos} (hK : G.K = X.K) (ha : PE X a (TE_ G T cf W ea)) (hb : PE X b (TE_ G T cf W eb)) : PE X (.Subscript a (.Slice (some b) none none p2) pos) (TE_ G T cf W (.pr (.sl true false) [ea, eb])) := by
  refine (pe_slice sl_cut ha (po_some hb) po_none).imp fun σ H Q ⟨av, as, ρ, st, R, E, q⟩ => ?_
  rw [evE, evEs2, bind_assoc] at q
  refine te_step R E q fun d1 st1 as1 H1 v1 l1 R1 E1 rd1 q1 => ?_
  rw [bind_assoc] at q1
  refine te_step R1 E1 q1 fun d2 st2 as2 H2 v2 l2 R2 E2 rd2 q2 => ?_
  obtain ⟨ps, z, hv, hp, q3⟩ := doPr_inv rfl q2
  obtain ⟨x, y, rfl, h1, h2⟩ := views2 hv
  cases y <;> first | (cases hp; done) | skip
  case int i =>
    obtain rfl := view_int h2
    exact ⟨i, rd2, sl_end hK R2 (rd1.mono l2) h1 hp q3⟩
theorem s_sl01 {p2 : Pos} (hK : G.K = X.K) (ha : PE X a (TE_ G T cf W ea)) (hb : PE X b (TE_ G T cf W eb)) : PE X (.Subscript a (.Slice none (some b) none p2) pos) (TE_ G T cf W (.pr (.sl false true) [ea, eb])) := by
  refine (pe_slice sl_cut ha po_none (po_some hb)).imp fun σ H Q ⟨av, as, ρ, st, R, E, q⟩ => ?_
  rw [evE, evEs2, bind_assoc] at q
  refine te_step R E q fun d1 st1 as1 H1 v1 l1 R1 E1 rd1 q1 => ?_
  rw [bind_assoc] at q1
  refine te_step R1 E1 q1 fun d2 st2 as2 H2 v2 l2 R2 E2 rd2 q2 => ?_
  obtain ⟨ps, z, hv, hp, q3⟩ := doPr_inv rfl q2
  obtain ⟨x, y, rfl, h1, h2⟩ := views2 hv
  cases y <;> first | (cases hp; done) | skip
  case int i =>
    obtain rfl := view_int h2
    exact ⟨i, rd2, sl_end hK R2 (rd1.mono l2) h1 hp q3⟩
theorem s_sl00 {p2 : Pos} (hK : G.K = X.K) (ha : PE X a (TE_ G T cf W ea)) : PE X (.Subscript a (.Slice none none none p2) pos) (TE_ G T cf W (.pr (.sl false false) [ea])) := by
  refine (pe_slice sl_cut ha po_none po_none).imp fun σ H Q ⟨av, as, ρ, st, R, E, q⟩ => ?_
  rw [evE, evEs1, bind_assoc] at q
  refine te_step R E q fun d1 st1 as1 H1 v1 l1 R1 E1 rd1 q1 => ?_
  obtain ⟨ps, z, hv, hp, q3⟩ := doPr_inv rfl q1
  obtain ⟨x, rfl, h1⟩ := views1 hv
  exact sl_end hK R1 rd1 h1 hp q3
theorem s_sl11 {p2 : Pos} (hK : G.K = X.K) (ha : PE X a (TE_ G T cf W ea)) (hb : PE X b (TE_ G T cf W eb)) (hc : PE X c (TE_ G T cf W ec)) : PE X (.Subscript a (.Slice (some b) (some c) none p2) pos) (TE_ G T cf W (.s3 ea eb ec)) := by
  refine (pe_slice sl_cut ha (po_some hb) (po_some hc)).imp fun σ H Q ⟨av, as, ρ, st, R, E, q⟩ => ?_
  rw [evE] at q
  refine te_step R E q fun d1 st1 as1 H1 v1 l1 R1 E1 rd1 q1 => ?_
  refine te_step R1 E1 q1 fun d2 st2 as2 H2 v2 l2 R2 E2 rd2 q2 => ?_
  cases d2 with
  | r c => exact q2.elim
  | p y =>
    cases y with
    | int i =>
      refine ⟨i, rd2, te_step R2 E2 q2 fun d3 st3 as3 H3 v3 l3 R3 E3 rd3 q3 => ?_⟩
      cases d3 with
      | r c => exact q3.elim
      | p y =>
        cases y with
        | int j =>
          refine ⟨j, rd3, ?_⟩
          cases e : (view st3 d1).bind fun v => cutP v (some i) (some j) with
          | none =>
            have q3 : Pst G av W σ (fun d _ as' H' => ∀ v, RD G av as' H' d v → Q v H') as3 H3 (match (view st3 d1).bind fun v => cutP v (some i) (some j) with
              | some r => .ok (.p r) st3
              | none => .bad) := q3
            rw [e] at q3
            exact q3.elim
          | some r =>
            have q3 : Pst G av W σ (fun d _ as' H' => ∀ v, RD G av as' H' d v → Q v H') as3 H3 (match (view st3 d1).bind fun v => cutP v (some i) (some j) with
              | some r => .ok (.p r) st3
              | none => .bad) := q3
            rw [e] at q3
            obtain ⟨p, hp, hc⟩ := Option.bind_eq_some_iff.mp e
            exact sl_end hK R3 ((rd1.mono l2).mono l3) hp hc q3
        | _ => exact q3.elim
    | _ => exact q2.elim

/-! ### x[::-1], sep.join -/
theorem s_rev {k : Nat} {p1 p2 p3 : Pos} (hK : G.K = X.K) (ha : PE X a (TE_ G T cf W ea)) : PE X (.Subscript a (.Slice none none (some (.UnaryOp .USub (.Constant (.int 1) k p1) p2)) p3) pos) (TE_ G T cf W (.pr .rev [ea])) := by
  refine (pe_revL ha).imp (one_op rfl rfl fun av H x p z tk h1 hz Q q => ?_)
  cases p <;> first | (cases hz; done) | skip
  case lst l =>
    cases hz
    obtain ⟨a, vs, rfl, h2, h3⟩ := seq_l h1
    rw [hK] at h2
    exact ⟨a, vs, rfl, h2, fun p hp => q _ _ (grow_new hp) (new_lst tk hp h3.rev)⟩
/-- a method of a text -/
theorem s_m1 {apos : Pos} {name : Str} {id : String} {p : Pr} {g : P → P → Option P} {r : V → List V → Hp → VK → Prop} (hK : G.K = X.K) (slot : Slot "str" name id) (ty : typeOf (.builtin id) = pure (.type "method_descriptor")) (rule : MtR X id r)
    (ha : PE X a (TE_ G T cf W ea)) (hb : PE X b (TE_ G T cf W eb)) (hp : p.keeps = false) (hg : prim T p = bin g)
    (ok : ∀ (av : Addr → Prop) (H : Hp) (x y : V) (a b z : P), Tk av H → RB G av H a x → RB G av H b y → g a b = some z → ∀ Q : VK, QOk G av H z Q → r x [y] H Q)
    (hs : starEach [b] X.env = [(false, eval b X.env)]) (hbase : attributeBase a name X.env (eval a X.env) = eval a X.env) (hline : (apos.endLine == pos.line) = true) :
    PE X (.Call (.Attribute a name apos) [b] [] pos) (TE_ G T cf W (.me p "str" ea [eb])) := by
  refine (pe_m1 slot ty rule ha hb hs hbase hline).imp fun σ H Q ⟨av, as, ρ, st, R, E, q⟩ => ?_
  rw [evE] at q
  refine te_step R E q fun d1 st1 as1 H1 v1 l1 R1 E1 rd1 q1 => ?_
  by_cases e : (view st1 d1).bind tyP = some "str"
  · rw [if_pos e] at q1
    obtain ⟨x, hx, ht⟩ := Option.bind_eq_some_iff.mp e
    have hr := view_rb R1 rd1 hx
    have hxs : ∃ s, x = .str s := by cases x <;> first | exact ⟨_, rfl⟩ | (cases ht; done) | (simp [tyP] at ht)
    obtain ⟨s, rfl⟩ := hxs
    refine ⟨⟨s, hr⟩, ?_⟩
    rw [evEs1, bind_assoc] at q1
    refine te_step R1 E1 q1 fun d2 st2 as2 H2 v2 l2 R2 E2 rd2 q2 => ?_
    obtain ⟨ps, z, hv, hpz, q3⟩ := doPr_inv hp q2
    obtain ⟨x', y', rfl, h1, h2⟩ := views2 hv
    rw [hg] at hpz
    exact ok (Av av as2) H2 v1 v2 x' y' z R2.tkA (view_rb R2 (rd1.mono l2) h1) (view_rb R2 rd2 h2) hpz Q (qok_of R2 q3)
  · rw [if_neg e] at q1
    exact q1.elim
theorem s_join {apos : Pos} (hK : G.K = X.K) (ha : PE X a (TE_ G T cf W ea)) (hb : PE X b (TE_ G T cf W eb)) (hs : starEach [b] X.env = [(false, eval b X.env)]) (hbase : attributeBase a "join" X.env (eval a X.env) = eval a X.env) (hline : (apos.endLine == pos.line) = true) :
    PE X (.Call (.Attribute a "join" apos) [b] [] pos) (TE_ G T cf W (.me .join "str" ea [eb])) := by
  refine s_m1 hK PySem.F.slot_str_join PySem.F.type_str_join mt_join ha hb rfl rfl (fun av H x y p q z tk hx hy hz Q k => ?_) hs hbase hline
  cases p <;> first | (cases hz; done) | skip
  case str s =>
    cases q <;> first | (cases hz; done) | skip
    case lst l =>
      obtain ⟨ss, hss, hz⟩ := Option.bind_eq_some_iff.mp (show (allStr l).bind (fun ss => if (ss.map (·.length)).sum + ss.length * s.length ≤ big then some (P.str (Txt.join s ss)) else none) = some z from hz)
      obtain ⟨hl, rfl⟩ := some_if hz
      obtain ⟨a, vs, rfl, h1, h2⟩ := seq_l hy
      rw [hK, strs_of h2 hss] at h1
      exact ⟨s, a, ss, hx, rfl, .inl h1, Nat.le_trans hl (by decide), k.now rfl⟩

/-! ### a dict of nothing, of one pair -/
theorem s_dic0 : PE X (.Dict [] [] pos) (TE_ G T cf W (.pr .dic [])) := by
  refine pe_dnewK.imp fun σ H Q ⟨av, as, ρ, st, R, E, q⟩ => ?_
  have q : Pst G av W σ (fun d _ as' H' => ∀ v, RD G av as' H' d v → Q v H') as H (.ok (.p (.dic [] [])) st) := q
  exact fun p hp => qok_of R q _ _ (grow_new hp) ⟨p, [], rfl, upd_same, R.tkA.fresh hp, rfl, rfl⟩

/-! ### a new list as a cell -/
/-- fresh: the list is laid, new, and handed on -/
def TF_ (G : Gx) (T : Tab) (cf : Cf) (W : WX) (e : Ex) : TE := fun σ H Q => ∃ av as ρ st, RSt G av as H st ∧ REn G av as H ρ σ ∧
  Pst G av W σ (fun d _ as' H' => ∃ l, d = .p (.lst l) ∧ ∀ p vs, H' p = none → RPs G (Av av as') H' l vs → Q (.ref p) (upd H' p (.lst vs))) as H (evE T cf e ρ st)
theorem Le.push {p : Addr} {o : HO} (hp : H p = none) : Le as H (as ++ [some p]) (upd H p o) := by
  refine ⟨by rw [List.length_append]; omega, fun i a hi e => ?_, fun i a hi e => ?_, fun a u e _ => grow_new hp a u e, fun a e => ?_⟩
  · rw [List.getElem?_append_left hi] at e
    exact e
  · rw [List.getElem?_append_right hi] at e
    have : i - as.length = 0 := by
      have := ix_lt e
      rw [List.length_singleton] at this
      omega
    rw [this] at e
    cases e
    exact hp
  · cases h : H a with
    | none => exact absurd h e
    | some u => rw [grow_new hp a u h]; intro z; cases z
theorem RSt.push {p : Addr} {l : List P} {vs : List V} (R : RSt G av as H st) (hp : H p = none) (h : RPs G (Av av as) H l vs) : RSt G av (as ++ [some p]) (upd H p (.lst vs)) (st ++ [.lst l]) := by
  have m : Mo (Av av as) (Av av (as ++ [some p])) H (upd H p (.lst vs)) := (Le.push hp).mo
  have old : ∀ (i : Nat) a, (as ++ [some p])[i]? = some (some a) → (as[i]? = some (some a)) ∨ (i = as.length ∧ a = p) := fun i a e => by
    by_cases hi : i < as.length
    · rw [List.getElem?_append_left hi] at e
      exact .inl e
    · rw [List.getElem?_append_right (Nat.le_of_not_lt hi)] at e
      have h0 : i - as.length = 0 := by
        have := ix_lt e
        rw [List.length_singleton] at this
        omega
      rw [h0] at e
      cases e
      exact .inr ⟨by omega, rfl⟩
  have ne : ∀ (i : Nat) a, as[i]? = some (some a) → a ≠ p := fun i a e z => by
    subst z
    exact R.tkA a (.inr (ix_mem e)) hp
  refine ⟨by rw [List.length_append, List.length_append, R.len]; rfl, fun i c e hn => ?_, fun i a e => ?_, fun i j a e1 e2 => ?_, fun i a e => ?_, fun a z => ?_⟩
  · by_cases hi : i < st.length
    · rw [List.getElem?_append_left hi] at e
      obtain ⟨a, ha⟩ := R.al i c e hn
      exact ⟨a, by rw [List.getElem?_append_left (ix_lt ha)]; exact ha⟩
    · have := ix_lt e
      rw [List.length_append, List.length_singleton] at this
      refine ⟨p, ?_⟩
      rw [List.getElem?_append_right (by rw [R.len]; omega), show i - as.length = 0 by rw [R.len]; omega]
      rfl
  · rcases old i a e with e | ⟨rfl, rfl⟩
    · obtain ⟨c, e1, e2⟩ := R.ok i a e
      refine ⟨c, by rw [List.getElem?_append_left (ix_lt e1)]; exact e1, ?_⟩
      cases c with
      | lst l =>
        obtain ⟨ws, h1, h2⟩ := e2
        exact ⟨ws, by rw [upd_ne (ne i a e)]; exact h1, RPs.mono m l ws h2⟩
      | ins c ns l =>
        obtain ⟨dx, ws, h1, h3, h4, h2⟩ := e2
        exact ⟨dx, ws, by rw [upd_ne (ne i a e)]; exact h1, h3, h4, RPs.mono m l ws h2⟩
      | dead => exact e2
    · refine ⟨.lst l, ?_, vs, upd_same, RPs.mono m l vs h⟩
      rw [R.len, List.getElem?_append_right (Nat.le_refl _), Nat.sub_self]
      rfl
  · rcases old i a e1 with q1 | ⟨q1, q1'⟩ <;> rcases old j a e2 with q2 | ⟨q2, q2'⟩
    · exact R.nd i j a q1 q2
    · exact absurd q2' (ne i a q1)
    · exact absurd q1' (ne j a q2)
    · rw [q1, q2]
  · rcases old i a e with e | ⟨_, rfl⟩
    · exact R.dj i a e
    · exact fun z => R.tk _ z hp
  · have := R.tk a z
    cases h : H a with
    | none => exact absurd h this
    | some u => rw [grow_new hp a u h]; intro z; cases z
/-- .. as a cell -/
theorem cell_imp : ∀ σ H Q, TE_ G T cf W (.ce ea) σ H Q → TF_ G T cf W ea σ H Q := by
  intro σ H Q ⟨av, as, ρ, st, R, E, q⟩
  rw [evE] at q
  refine ⟨av, as, ρ, st, R, E, q.bind.mono fun d st1 as1 H1 l1 R1 q1 => ?_⟩
  cases d with
  | r c => exact q1.elim
  | p x =>
    cases x with
    | lst l =>
      refine ⟨l, rfl, fun p vs hp hr => ?_⟩
      refine q1 (as1 ++ [some p]) (upd H1 p (.lst vs)) (Le.push hp) (R1.push hp hr) (.ref p) ⟨by rw [List.length_append, R1.len]; exact Nat.lt_succ_self _, fun a e => ?_⟩
      rw [← R1.len, List.getElem?_append_right (Nat.le_refl _), Nat.sub_self] at e
      cases e
      rfl
    | _ => exact q1.elim
theorem s_cell {e : Expr} (h : PE X e (TF_ G T cf W ea)) : PE X e (TE_ G T cf W (.ce ea)) := h.imp cell_imp
/-- .. as a deep value -/
theorem deep_imp (hl : ∀ ρ st d st', evE T cf ea ρ st = .ok d st' → ∃ l, d = .p (.lst l)) : ∀ σ H Q, TE_ G T cf W ea σ H Q → TF_ G T cf W ea σ H Q := by
  intro σ H Q ⟨av, as, ρ, st, R, E, q⟩
  refine ⟨av, as, ρ, st, R, E, ?_⟩
  cases e : evE T cf ea ρ st with
  | ok d st' =>
    rw [e] at q
    obtain ⟨l, rfl⟩ := hl ρ st d st' e
    exact fun as1 H1 l1 R1 => ⟨l, rfl, fun p vs hp hr => q as1 _ (l1.trans (Le.grow (grow_new hp))) (R1.grow (grow_new hp)) (.ref p) (new_lst R1.tkA hp hr)⟩
  | ex c ns ps st' => rw [e] at q; exact q
  | bad => rw [e] at q; exact q
theorem s_deep {e : Expr} (h : PE X e (TF_ G T cf W ea)) (hl : ∀ ρ st d st', evE T cf ea ρ st = .ok d st' → ∃ l, d = .p (.lst l)) : PE X e (TE_ G T cf W ea) := h.imp (deep_imp hl)
theorem f_lst {es : List Expr} {ees : List Ex} (ha : PA X es (TA_ G T cf W ees)) : PE X (.List es pos) (TF_ G T cf W (.pr .lst ees)) := by
  refine (pe_lst ha).imp fun σ H Q ⟨av, as, ρ, st, R, E, q⟩ => ?_
  rw [evE] at q
  refine ta_step R E q fun ds st1 as1 H1 vs l1 R1 E1 rds q1 => ?_
  obtain ⟨ps, z, hv, hp, q3⟩ := doPr_invK rfl q1
  have hps := pures_rp rds hv
  obtain ⟨hl, rfl⟩ := some_if (show lstP ps = some z from hp)
  refine ⟨by rw [← hps.len]; exact fits' hl, fun p hn => ?_⟩
  obtain ⟨l, e, q4⟩ := q3.now R1
  cases e
  exact q4 p vs hn hps
end
end Dp
set_option Elab.async false
set_option linter.all false
set_option maxRecDepth 100000
set_option maxHeartbeats 200000
/-! Dp, part 7: targets, what is walked, comprehensions. -/
namespace Dp
open PySem L2

mutual
/-- a target's places -/
def tgs : Tg → List Nat
  | .v i => [i]
  | .t l => tgss l
def tgss : List Tg → List Nat
  | [] => []
  | t :: r => tgs t ++ tgss r
end

/-- the reading of a target -/
def TG_ (G : Gx) (t : Tg) : TG := fun v σ H Q => ∃ av as st ρ x ρ', RSt G av as H st ∧ REn G av as H ρ σ ∧ RP G (Av av as) H x v ∧ asg t x ρ = some ρ' ∧
  ∀ σ', REn G av as H ρ' σ' → (∀ j : Nat, j ∉ tgs t → σ'[j]? = σ[j]?) → σ'.length = σ.length → Q σ' H
def TGs_ (G : Gx) (ts : List Tg) : TGs := fun vs σ H Q => ∃ av as st ρ xs ρ', RSt G av as H st ∧ REn G av as H ρ σ ∧ RPs G (Av av as) H xs vs ∧ asgs ts xs ρ = some ρ' ∧
  ∀ σ', REn G av as H ρ' σ' → (∀ j : Nat, j ∉ tgss ts → σ'[j]? = σ[j]?) → σ'.length = σ.length → Q σ' H

theorem _root_.L2.PG.imp {X : Cx} {e : Expr} {t t' : TG} (h : PG X e t) (i : ∀ v σ H Q, t' v σ H Q → t v σ H Q) : PG X e t' := ⟨fun pins s σ H v u Q I r q => h.run pins s σ H v u Q I r (i v σ H Q q)⟩
theorem _root_.L2.PGs.imp {X : Cx} {e : List Expr} {t t' : TGs} (h : PGs X e t) (i : ∀ v σ H Q, t' v σ H Q → t v σ H Q) : PGs X e t' := ⟨fun pins s σ H v u Q I r q => h.run pins s σ H v u Q I r (i v σ H Q q)⟩

section
variable {X : Cx} {G : Gx} {T : Tab} {cf : Cf} {W : WX} {av : Addr → Prop} {σ : L2.St} {as : List (Option Addr)} {H : Hp} {st : So} {ρ : En}
variable {a b c : Expr} {ea eb ec : Ex} {pos : Pos}

theorem g_name {i : Nat} {x : Str} (hN : X.N.Nodup) (hi : X.N[i]? = some x) (hx : Loc X.env.scope x) (hf : X.fn x = true ∨ X.env.scope.names.lookup x = some .local) : PG X (.Name x pos) (TG_ G (.v i)) := by
  refine (pg_name hN hi hx hf).imp fun v σ H Q ⟨av, as, st, ρ, x, ρ', R, E, rx, e, q⟩ => ?_
  obtain ⟨hl, rfl⟩ := some_if (show (if i < ρ.length then some (ρ.set i (some (.p x))) else none) = some ρ' from e)
  refine q (σ.set i (some v)) (E.set i rx) (fun j hj => ?_) (List.length_set ..)
  rw [List.getElem?_set_ne fun z => hj (by rw [z]; exact List.mem_singleton.mpr rfl)]
theorem gs_nil : PGs X [] (TGs_ G []) := by
  refine pgs_nil.imp fun vs σ H Q ⟨av, as, st, ρ, xs, ρ', R, E, rx, e, q⟩ => ?_
  cases xs with
  | cons x r => cases e
  | nil =>
    cases e
    exact ⟨rx, q σ E (fun _ _ => rfl) rfl⟩
theorem each_cons {e : Expr} {es : List Expr} {env : Env} (h : ∀ x p, e ≠ .Starred x p) : assignEach (e :: es) env = (false, assign e env) :: assignEach es env := by
  cases e <;> first | rfl | exact absurd rfl (h _ _)
theorem gs_cons {e : Expr} {es : List Expr} {t : Tg} {ts : List Tg} (hs : ∀ x p, e ≠ .Starred x p) (h1 : PG X e (TG_ G t)) (h2 : PGs X es (TGs_ G ts)) : PGs X (e :: es) (TGs_ G (t :: ts)) := by
  refine (pgs_cons h1 h2 (by rw [each_cons hs]; rfl)).imp fun vs σ H Q ⟨av, as, st, ρ, xs, ρ', R, E, rx, e, q⟩ => ?_
  cases xs with
  | nil => cases e
  | cons x r =>
    obtain ⟨v, w, rfl, r1, r2⟩ := rx
    have e : (match asg t x ρ with
      | some ρ1 => asgs ts r ρ1
      | none => none) = some ρ' := e
    cases e1 : asg t x ρ with
    | none => rw [e1] at e; cases e
    | some ρ1 =>
      rw [e1] at e
      refine ⟨v, w, rfl, av, as, st, ρ, x, ρ1, R, E, r1, e1, fun σ1 E1 k1 l1 => ⟨av, as, st, ρ1, r, ρ', R, E1, r2, e, fun σ2 E2 k2 l2 => q σ2 E2 (fun j hj => ?_) (l2.trans l1)⟩⟩
      have hj : j ∉ tgs t ++ tgss ts := hj
      rw [List.mem_append, not_or] at hj
      exact (k2 j hj.2).trans (k1 j hj.1)
theorem each_len {env : Env} : ∀ {es : List Expr}, (∀ e ∈ es, ∀ x p, e ≠ .Starred x p) → (assignEach es env).length = es.length ∧ (assignEach es env).findIdx? (·.1) = none
  | [], _ => ⟨rfl, rfl⟩
  | e :: es, h => by
    obtain ⟨h1, h2⟩ := each_len (env := env) (es := es) fun x hx => h x (List.mem_cons_of_mem _ hx)
    rw [each_cons (h e List.mem_cons_self)]
    refine ⟨by rw [List.length_cons, List.length_cons, h1], ?_⟩
    rw [List.findIdx?_cons]
    rw [if_neg Bool.false_ne_true, h2]
    rfl
theorem asgs_len : ∀ {ts : List Tg} {xs : List P} {ρ ρ' : En}, asgs ts xs ρ = some ρ' → xs.length = ts.length
  | [], [], _, _, _ => rfl
  | [], _ :: _, _, _, e => by cases e
  | _ :: _, [], _, _, e => by cases e
  | t :: ts, x :: xs, ρ, ρ', e => by
    have e : (match asg t x ρ with
      | some ρ1 => asgs ts xs ρ1
      | none => none) = some ρ' := e
    cases e1 : asg t x ρ with
    | none => rw [e1] at e; cases e
    | some ρ1 =>
      rw [e1] at e
      rw [List.length_cons, List.length_cons, asgs_len e]
theorem g_tup {es : List Expr} {k : Nat} {ts : List Tg} (hK : G.K = X.K) (hc : X.calm = true) (hs : ∀ e ∈ es, ∀ x p, e ≠ .Starred x p) (hl : ts.length = es.length) (h : PGs X es (TGs_ G ts)) : PG X (.Tuple es k pos) (TG_ G (.t ts)) := by
  obtain ⟨n1, n2⟩ := each_len (env := X.env) hs
  refine (pg_tup hc h n1 n2).imp fun v σ H Q ⟨av, as, st, ρ, x, ρ', R, E, rx, e, q⟩ => ?_
  cases x <;> first | (cases e; done) | skip
  case tup xs =>
    obtain ⟨a, vs, rfl, h1, h2⟩ := sq_tup rx
    rw [hK] at h1
    have e : asgs ts xs ρ = some ρ' := e
    exact ⟨a, vs, rfl, h1, by rw [← h2.len, asgs_len e, hl], av, as, st, ρ, xs, ρ', R, E, h2, e, q⟩

/-! ### what is walked -/
/-- an iterator yields these, whatever is laid or changed elsewhere -/
def ItOk (G : Gx) (av : Addr → Prop) (J : L2.It) (xs : List P) (as : List (Option Addr)) (H : Hp) : Prop :=
  ∀ (av2 : Addr → Prop) (as2 : List (Option Addr)) (H2 : Hp), Mo (Av av as) (Av av2 as2) H H2 → Tk (Av av2 as2) H2 →
    (∀ i, i < xs.length → J.go i H2) ∧ J.stop xs.length H2 ∧ ∀ i x H3, i < xs.length → J.yld i H2 x H3 → ∃ z, xs[i]? = some z ∧ Gw H2 H3 ∧ RP G (Av av2 as2) H3 z x
def TI_ (G : Gx) (T : Tab) (cf : Cf) (W : WX) (k : Nat) (ea eb : Ex) : TI := fun σ H R => ∃ av as ρ st, RSt G av as H st ∧ REn G av as H ρ σ ∧
  Pst G av W σ (fun xs _ as' H' => xs.length ≤ big → ∀ J, ItOk G av J xs as' H' → R J H') as H (itr k (evE T cf ea ρ st) fun st1 => evE T cf eb ρ st1)

theorem it_list {l : List P} {a : Addr} (h : RP G (Av av as) H (.lst l) (.ref a)) : ItOk G av (Itl G.K a) l as H := by
  intro av2 as2 H2 m tk
  obtain ⟨a', vs, e, h1, _, h2⟩ := RP.mono m _ _ h
  cases e
  have hl := h2.len
  refine ⟨fun i hi => ?_, ⟨vs, .of h1, by omega⟩, fun i x H3 hi0 y => ?_⟩
  · obtain ⟨v, hv, _⟩ := h2.get (List.getElem?_eq_getElem hi)
    exact ⟨vs, v, .of h1, hv⟩
  · obtain ⟨rfl, y⟩ := y
    have hx := y vs (.of h1)
    have hi : i < l.length := by rw [hl]; exact ix_lt hx
    obtain ⟨v, hv, rv⟩ := h2.get (List.getElem?_eq_getElem hi)
    rw [hx] at hv
    cases hv
    exact ⟨_, List.getElem?_eq_getElem hi, Gw.refl _, rv⟩
theorem it_fro {l : List P} {a : Addr} (h : RP G (Av av as) H (.fro l) (.ref a)) : ItOk G av (Itl G.K a) l as H := by
  intro av2 as2 H2 m tk
  obtain ⟨a', vs, e, hq, h2⟩ := sql_f (RP.mono m _ _ h)
  cases e
  have hl := h2.len
  refine ⟨fun i hi => ?_, ⟨vs, hq, by omega⟩, fun i x H3 hi0 y => ?_⟩
  · obtain ⟨v, hv, _⟩ := h2.get (List.getElem?_eq_getElem hi)
    exact ⟨vs, v, hq, hv⟩
  · obtain ⟨rfl, y⟩ := y
    have hx := y vs hq
    have hi : i < l.length := by rw [hl]; exact ix_lt hx
    obtain ⟨v, hv, rv⟩ := h2.get (List.getElem?_eq_getElem hi)
    rw [hx] at hv
    cases hv
    exact ⟨_, List.getElem?_eq_getElem hi, Gw.refl _, rv⟩
theorem it_tup {l : List P} {a : Addr} (h : RP G (Av av as) H (.tup l) (.ref a)) : ItOk G av (Itt G.K a) l as H := by
  intro av2 as2 H2 m tk
  obtain ⟨a', vs, e, h1, h2⟩ := sq_tup (RP.mono m _ _ h)
  cases e
  have hl := h2.len
  refine ⟨fun i hi => ?_, ⟨vs, h1, by omega⟩, fun i x H3 hi0 y => ?_⟩
  · obtain ⟨v, hv, _⟩ := h2.get (List.getElem?_eq_getElem hi)
    exact ⟨vs, v, h1, hv⟩
  · obtain ⟨rfl, y⟩ := y
    have hx := y vs h1
    have hi : i < l.length := by rw [hl]; exact ix_lt hx
    obtain ⟨v, hv, rv⟩ := h2.get (List.getElem?_eq_getElem hi)
    rw [hx] at hv
    cases hv
    exact ⟨_, List.getElem?_eq_getElem hi, Gw.refl _, rv⟩
theorem it_str {s : Str} : ItOk G av (Its s) (s.cps.toList.map fun c => .str ⟨#[c]⟩) as H := by
  intro av2 as2 H2 m tk
  rw [List.length_map, Array.length_toList]
  refine ⟨fun i hi => hi, Nat.le_refl _, fun i x H3 hi0 y => ?_⟩
  obtain ⟨rfl, c, hc, rfl⟩ := y
  refine ⟨.str ⟨#[c]⟩, ?_, Gw.refl _, rfl⟩
  rw [List.getElem?_map, Array.getElem?_toList, hc]
  rfl
theorem rgI_len : ∀ (n : Nat) (a : Int), (rgI a n).length = n
  | 0, _ => rfl
  | n + 1, a => by rw [rgI, List.length_cons, rgI_len n]
theorem rgI_get : ∀ (n : Nat) (a : Int) (i : Nat), i < n → (rgI a n)[i]? = some (.int (a + i))
  | 0, _, _, h => absurd h (Nat.not_lt_zero _)
  | n + 1, a, 0, _ => by
    rw [rgI]
    simp
  | n + 1, a, i + 1, h => by
    rw [rgI, List.getElem?_cons_succ, rgI_get n (a + 1) i (by omega)]
    congr 2
    omega
theorem it_rng {lo : Int} {n : Nat} : ItOk G av (Itr lo n) (rgI lo n) as H := by
  intro av2 as2 H2 m tk
  rw [rgI_len]
  refine ⟨fun i hi => hi, Nat.le_refl _, fun i x H3 hi0 y => ?_⟩
  obtain ⟨rfl, rfl⟩ := y
  exact ⟨_, rgI_get n lo i hi0, Gw.refl _, rfl⟩

/-! ### what is walked, by its form -/
theorem itr_fin {k : Nat} {d e : D} {kk : List P → So → List (Option Addr) → Hp → Prop} (h : Pst G av W σ kk as H (itF k d e st)) : ∃ p q l, d = .p p ∧ e = .p q ∧ items k p q = some l ∧ l.length ≤ big ∧ Pst G av W σ kk as H (.ok l st) := by
  cases d with
  | r c => exact h.elim
  | p p =>
    cases e with
    | r c => exact h.elim
    | p q =>
      unfold itF at h
      dsimp only at h
      cases e1 : items k p q with
      | none => rw [e1] at h; exact h.elim
      | some l =>
        rw [e1] at h
        dsimp only at h
        by_cases e2 : l.length ≤ big
        · rw [if_pos e2] at h
          exact ⟨p, q, l, rfl, rfl, e1, e2, h⟩
        · rw [if_neg e2] at h
          exact h.elim
variable {tg : Expr}
theorem pi_own (hK : G.K = X.K) (he : PE X a (TE_ G T cf W ea)) : PI X tg a (TI_ G T cf W 0 ea (.co .non)) := by
  refine ⟨fun pins s σ H R I ⟨av, as, ρ, st, RS, E, q⟩ => ?_⟩
  cases e : evE T cf ea ρ st with
  | bad => rw [e] at q; exact q.elim
  | ex c ns vs st1 =>
    rw [e] at q
    exact (pi_list he).run pins s σ H R I ⟨av, as, ρ, st, RS, E, by rw [e]; exact q⟩
  | ok d st1 =>
    rw [e] at q
    obtain ⟨p, _, l, rfl, _, hi, hl, q2⟩ := itr_fin (k := 0) (d := d) (e := .p .non) q
    cases p <;> first | (cases hi; done) | skip
    case lst l' =>
      cases hi
      refine (pi_list he).run pins s σ H R I ⟨av, as, ρ, st, RS, E, ?_⟩
      rw [e]
      intro as' H' l1 R1 v rd
      obtain ⟨a', vs, rfl, h1, h2⟩ := seq_l (RB.of rd)
      exact ⟨a', rfl, ⟨vs, by rw [← hK]; exact h1⟩, q2 as' H' l1 R1 hl _ (by rw [← hK]; exact it_list rd)⟩
    case fro l' =>
      cases hi
      refine (pi_list he).run pins s σ H R I ⟨av, as, ρ, st, RS, E, ?_⟩
      rw [e]
      intro as' H' l1 R1 v rd
      obtain ⟨a', vs, rfl, h1, h2⟩ := seq_f (RB.of rd)
      exact ⟨a', rfl, ⟨vs, by rw [← hK]; exact h1⟩, q2 as' H' l1 R1 hl _ (by rw [← hK]; exact it_fro rd)⟩
    case tup l' =>
      cases hi
      refine (pi_tup he).run pins s σ H R I ⟨av, as, ρ, st, RS, E, ?_⟩
      rw [e]
      intro as' H' l1 R1 v rd
      obtain ⟨a', vs, rfl, h1, h2⟩ := sq_tup rd
      exact ⟨a', rfl, ⟨vs, by rw [← hK]; exact h1⟩, q2 as' H' l1 R1 hl _ (by rw [← hK]; exact it_tup rd)⟩
    case str s' =>
      cases hi
      refine (pi_str he).run pins s σ H R I ⟨av, as, ρ, st, RS, E, ?_⟩
      rw [e]
      intro as' H' l1 R1 v rd
      exact ⟨s', rd, q2 as' H' l1 R1 hl _ it_str⟩
theorem pi_r1 {p : Pos} (hg : Gl X "range") (hm : X.mg "range" = none) (he : PA X [a] (TA_ G T cf W [ea])) (hs : starEach [a] X.env = [(false, eval a X.env)]) : PI X tg (.Call (.Name "range" p) [a] [] pos) (TI_ G T cf W 1 ea (.co .non)) := by
  refine ⟨fun pins s σ H R I ⟨av, as, ρ, st, RS, E, q⟩ => (pi_range1 hg hm he hs).run pins s σ H R I ?_⟩
  unfold itr at q
  refine ⟨av, as, ρ, st, RS, E, ?_⟩
  rw [evEs1]
  cases e : evE T cf ea ρ st with
  | bad => rw [e] at q; exact q.elim
  | ex c ns vs st1 => rw [e] at q; exact q
  | ok d st1 =>
    rw [e] at q
    intro as' H' l1 R1 vs rds
    obtain ⟨p, _, l, rfl, _, hi, hl, q2⟩ := itr_fin (k := 1) (d := d) (e := .p .non) q
    cases p <;> first | (cases hi; done) | skip
    case int n =>
      obtain ⟨⟨hn1, hn2⟩, rfl⟩ := some_if (show (if -(2 ^ 40) < n ∧ n < 2 ^ 40 then some (rgI 0 n.toNat) else none) = some l from hi)
      obtain ⟨v, w, rfl, h1, h2⟩ := rds
      rw [show w = [] from h2, show v = .int n from h1]
      exact ⟨n, rfl, by omega, by omega, q2 as' H' l1 R1 hl _ it_rng⟩
theorem pi_r2 {p : Pos} (hg : Gl X "range") (hm : X.mg "range" = none) (he : PA X [a, b] (TA_ G T cf W [ea, eb])) (hs : starEach [a, b] X.env = [(false, eval a X.env), (false, eval b X.env)]) (hs2 : starEach [b] X.env = [(false, eval b X.env)]) :
    PI X tg (.Call (.Name "range" p) [a, b] [] pos) (TI_ G T cf W 2 ea eb) := by
  refine ⟨fun pins s σ H R I ⟨av, as, ρ, st, RS, E, q⟩ => (pi_range2 hg hm he hs hs2).run pins s σ H R I ?_⟩
  unfold itr at q
  refine ⟨av, as, ρ, st, RS, E, ?_⟩
  rw [evEs2]
  cases e : evE T cf ea ρ st with
  | bad => rw [e] at q; exact q.elim
  | ex c ns vs st1 => rw [e] at q; exact q
  | ok d st1 =>
    rw [e] at q
    replace q : Pst G av W σ (fun xs _ as' H' => xs.length ≤ big → ∀ J, ItOk G av J xs as' H' → R J H') as H ((evE T cf eb ρ st1).bind fun e st2 => itF 2 d e st2) := q
    show Pst G av W σ _ as H ((evE T cf eb ρ st1).bind fun y st2 => .ok [d, y] st2)
    cases e2 : evE T cf eb ρ st1 with
    | bad => rw [e2] at q; exact q.elim
    | ex c ns vs st1 => rw [e2] at q; exact q
    | ok d2 st2 =>
      rw [e2] at q
      intro as' H' l1 R1 vs rds
      obtain ⟨p, p2, l, rfl, rfl, hi, hl, q2⟩ := itr_fin (k := 2) (d := d) (e := d2) q
      clear q
      cases p <;> first | (cases hi; done) | (cases p2 <;> cases hi; done) | skip
      case int m =>
        cases p2 <;> first | (cases hi; done) | skip
        case int n =>
          obtain ⟨⟨h1, h2, h3, h4⟩, rfl⟩ := some_if (show (if -(2 ^ 40) < m ∧ m < 2 ^ 40 ∧ -(2 ^ 40) < n ∧ n < 2 ^ 40 then some (rgI m (n - m).toNat) else none) = some l from hi)
          obtain ⟨v, w, rfl, r1, v2, w2, rfl, r2, r3⟩ := rds
          rw [show w2 = [] from r3, show v = .int m from r1, show v2 = .int n from r2]
          exact ⟨m, n, rfl, ⟨by omega, by omega, by omega, by omega⟩, q2 as' H' l1 R1 hl _ it_rng⟩
theorem enI_len : ∀ (l : List P) (i : Int), (enI i l).length = l.length
  | [], _ => rfl
  | x :: r, i => by rw [enI, List.length_cons, List.length_cons, enI_len r]
theorem enI_get : ∀ (l : List P) (j : Int) (i : Nat) (x : P), l[i]? = some x → (enI j l)[i]? = some (.tup [.int (j + i), x])
  | [], _, _, _, h => by simp at h
  | y :: l, j, 0, x, h => by
    rw [List.getElem?_cons_zero] at h
    cases h
    rw [enI]
    simp
  | y :: l, j, i + 1, x, h => by
    rw [List.getElem?_cons_succ] at h
    rw [enI, List.getElem?_cons_succ, enI_get l (j + 1) i x h]
    congr 4
    omega
theorem it_enum {l : List P} {a : Addr} (h : RP G (Av av as) H (.lst l) (.ref a)) : ItOk G av (Ite G.K a) (enI 0 l) as H := by
  intro av2 as2 H2 m tk
  obtain ⟨a', vs, e, h1, _, h2⟩ := RP.mono m _ _ h
  cases e
  rw [enI_len]
  have hl := h2.len
  refine ⟨fun i hi => ?_, ⟨vs, .of h1, by omega⟩, fun i x H3 hi0 y => ?_⟩
  · obtain ⟨v, hv, _⟩ := h2.get (List.getElem?_eq_getElem hi)
    exact ⟨vs, v, .of h1, hv⟩
  · obtain ⟨p, x, rfl, hp, rfl, y⟩ := y
    have hx := y vs (.of h1)
    have hi : i < l.length := hi0
    obtain ⟨v, hv, rv⟩ := h2.get (List.getElem?_eq_getElem hi)
    rw [hx] at hv
    cases hv
    refine ⟨_, enI_get l 0 i _ (List.getElem?_eq_getElem hi), grow_new hp, new_tup tk hp ⟨_, _, rfl, ?_, _, _, rfl, rv, rfl⟩⟩
    show V.int (i : Int) = V.int (0 + i)
    rw [Int.zero_add]
theorem pi_en {p tpos : Pos} {elts : List Expr} {kk : Nat} (hK : G.K = X.K) (hg : Gl X "enumerate") (hm : X.mg "enumerate" = none) (he : PA X [a] (TA_ G T cf W [ea])) (hs : starEach [a] X.env = [(false, eval a X.env)]) :
    PI X (.Tuple elts kk tpos) (.Call (.Name "enumerate" p) [a] [] pos) (TI_ G T cf W 3 ea (.co .non)) := by
  refine ⟨fun pins s σ H R I ⟨av, as, ρ, st, RS, E, q⟩ => (pi_enum hg hm he hs).run pins s σ H R I ?_⟩
  unfold itr at q
  refine ⟨av, as, ρ, st, RS, E, ?_⟩
  rw [evEs1]
  cases e : evE T cf ea ρ st with
  | bad => rw [e] at q; exact q.elim
  | ex c ns vs st1 => rw [e] at q; exact q
  | ok d st1 =>
    rw [e] at q
    intro as' H' l1 R1 vs rds
    obtain ⟨p, _, l, rfl, _, hi, hl, q2⟩ := itr_fin (k := 3) (d := d) (e := .p .non) q
    cases p <;> first | (cases hi; done) | skip
    case lst l' =>
      cases hi
      obtain ⟨v, w, rfl, h1, h2⟩ := rds
      obtain ⟨a', vs, rfl, h3, h4⟩ := seq_l (RB.of h1)
      rw [show w = [] from h2]
      exact ⟨a', vs, rfl, by rw [← hK]; exact h3, q2 as' H' l1 R1 hl _ (by rw [← hK]; exact it_enum h1)⟩

/-! ### [e for t in a if c] -/
abbrev W0 : WX := fun _ _ _ _ => False
def TC_ (G : Gx) (T : Tab) (cf : Cf) (W : WX) (cs : List Ex) : TT := fun σ H Q => ∃ av as ρ st, RSt G av as H st ∧ REn G av as H ρ σ ∧
  Pst G av W σ (fun b _ _ H' => Q b H') as H (evC T cf cs ρ st)
theorem c_nil : PTs X [] (TC_ G T cf W []) := ⟨fun pins s σ H Q I ⟨av, as, ρ, st, R, E, q⟩ => pts_nil.run pins s σ H Q I (Pst.now (a := true) (k := fun b _ _ H' => Q b H') q R)⟩
theorem c_one (h : PT X a (TT_ G T cf W ea)) : PTs X [a] (TC_ G T cf W [ea]) := by
  refine ⟨fun pins s σ H Q I ⟨av, as, ρ, st, R, E, q⟩ => (pts_one h).run pins s σ H Q I ⟨av, as, ρ, st, R, E, ?_⟩⟩
  rw [evC] at q
  unfold evT
  cases e : evE T cf ea ρ st with
  | bad => rw [e] at q; exact q.elim
  | ex c ns vs st1 => rw [e] at q; exact q
  | ok d st1 =>
    rw [e] at q
    have q : Pst G av W σ (fun b _ _ H' => Q b H') as H (match (view st1 d).bind truP with
      | some true => evC T cf [] ρ st1
      | some false => .ok false st1
      | none => .bad) := q
    show Pst G av W σ _ as H (match (view st1 d).bind truP with
      | some b => Ou.ok b st1
      | none => .bad)
    cases e2 : (view st1 d).bind truP with
    | none => rw [e2] at q; exact q.elim
    | some b => rw [e2] at q; cases b <;> exact q
end
end Dp
set_option Elab.async false
set_option linter.all false
set_option maxRecDepth 100000
set_option maxHeartbeats 200000
/-! Dp, part 8: comprehensions. -/
namespace Dp
open PySem L2

section
variable {X : Cx} {G : Gx} {T : Tab} {cf : Cf} {W : WX} {av : Addr → Prop} {σ : L2.St} {as : List (Option Addr)} {H : Hp} {st : So} {ρ : En}
variable {a b c tg : Expr} {ea eb ec : Ex} {pos : Pos}

/-- D taken away -/
def del (H : Hp) (D : Addr) : Hp := fun a => if a = D then none else H a
theorem del_self {D : Addr} : del H D D = none := if_pos rfl
theorem del_ne {D a : Addr} (h : a ≠ D) : del H D a = H a := if_neg h
theorem upd_del {D : Addr} {o : HO} (h : H D = some o) : upd (del H D) D o = H := by
  funext a
  by_cases e : a = D
  · rw [e, upd_same, h]
  · rw [upd_ne e, del_ne e]
def avD (av : Addr → Prop) (D : Addr) : Addr → Prop := fun a => av a ∨ a = D
theorem Av.out {D : Addr} (h : ¬ some D ∈ as) {x : Addr} : Av (avD av D) as x ↔ Av av as x ∨ x = D := by
  unfold Av avD
  constructor
  · rintro ((h | h) | h)
    · exact .inl (.inl h)
    · exact .inr h
    · exact .inl (.inr h)
  · rintro ((h | h) | h)
    · exact .inl (.inl h)
    · exact .inr h
    · exact .inl (.inr h)
theorem mo_del {D : Addr} : Mo (Av (avD av D) as) (Av av as) H (del H D) := by
  refine ⟨fun a o h n => ?_, fun a z => .inl ?_⟩
  · rw [del_ne fun z => n (.inl (.inr z))]
    exact h
  · rcases z with z | z
    · exact .inl (.inl z)
    · exact .inr z
theorem mo_add {D : Addr} {o : HO} (hD : H D = none) : Mo (Av av as) (Av (avD av D) as) H (upd H D o) := by
  refine ⟨fun a u h n => grow_new hD a u h, fun a z => ?_⟩
  rcases z with (z | z) | z
  · exact .inl (.inl z)
  · rw [z]; exact .inr hD
  · exact .inl (.inr z)
theorem RSt.ndD (R : RSt G av as H st) {D : Addr} (hD : H D = none) : ¬ some D ∈ as := fun z => R.tkA D (.inr z) hD
theorem ROk.mono {av' : Addr → Prop} {as' : List (Option Addr)} {H' : Hp} (m : Mo (Av av as) (Av av' as') H H') {a : Addr} (he : H' a = H a) : ∀ {c : Cl}, ROk G (Av av as) H a c → ROk G (Av av' as') H' a c
  | .lst l, ⟨vs, h, r⟩ => ⟨vs, he.trans h, RPs.mono m l vs r⟩
  | .ins k ns l, ⟨dx, vs, h, h1, h2, r⟩ => ⟨dx, vs, he.trans h, h1, h2, RPs.mono m l vs r⟩
  | .dead, h => h
theorem RSt.add (R : RSt G av as H st) {D : Addr} {o : HO} (hD : H D = none) : RSt G (avD av D) as (upd H D o) st := by
  have nd := R.ndD hD
  refine ⟨R.len, R.al, fun i a e => ?_, R.nd, fun i a e z => ?_, fun a z => ?_⟩
  · obtain ⟨c, e1, ok⟩ := R.ok i a e
    exact ⟨c, e1, ok.mono (mo_add hD) (upd_ne fun z => nd (by rw [← z]; exact ix_mem e))⟩
  · rcases z with z | z
    · exact R.dj i a e z
    · exact nd (by rw [← z]; exact ix_mem e)
  · rcases z with z | z
    · rw [upd_ne fun q => R.tk a z (by rw [q]; exact hD)]
      exact R.tk a z
    · rw [z, upd_same]
      intro q; cases q
theorem RSt.sub {D : Addr} (R : RSt G (avD av D) as H st) (hn : ¬ av D) : RSt G av as (del H D) st := by
  have nd : ∀ (i : Nat) a, as[i]? = some (some a) → a ≠ D := fun i a e z => R.dj i a e (.inr z)
  refine ⟨R.len, R.al, fun i a e => ?_, R.nd, fun i a e z => R.dj i a e (.inl z), fun a z => ?_⟩
  · obtain ⟨c, e1, ok⟩ := R.ok i a e
    exact ⟨c, e1, ok.mono mo_del (del_ne (nd i a e))⟩
  · rw [del_ne fun q => hn (by rw [← q]; exact z)]
    exact R.tk a (.inl z)
theorem REn.mv {av' : Addr → Prop} {H' : Hp} (m : Mo (Av av as) (Av av' as) H H') (E : REn G av as H ρ σ) : REn G av' as H' ρ σ := by
  refine ⟨E.len, fun i d e => ?_⟩
  obtain ⟨v, h1, h2⟩ := E.at_ i d e
  refine ⟨v, h1, ?_⟩
  cases d with
  | p x => exact RP.mono m x v h2
  | r c => exact h2
theorem REn.wip (E : REn G av as H ρ σ) : ∀ vs : List Nat, REn G av as H (wip ρ vs) (wipe σ vs)
  | [] => E
  | i :: vs => by
    have E1 := E.wip vs
    refine ⟨by rw [Dp.wip, L2.wipe, List.length_set, List.length_set]; exact E1.len, fun j d e => ?_⟩
    rw [Dp.wip] at e
    rw [L2.wipe]
    by_cases hij : i = j
    · subst hij
      have := ix_lt e
      rw [List.length_set] at this
      rw [List.getElem?_set_self this] at e
      cases e
    · rw [List.getElem?_set_ne hij] at e
      rw [List.getElem?_set_ne hij]
      exact E1.at_ j d e
theorem wipe_in {vs : List Nat} {j : Nat} (h : j ∈ vs) (hl : j < σ.length) : (wipe σ vs)[j]? = some none := by
  induction vs with
  | nil => cases h
  | cons i vs ih =>
    rw [L2.wipe]
    by_cases hij : i = j
    · subst hij
      rw [List.getElem?_set_self (by rw [wipe_length]; exact hl)]
    · rw [List.getElem?_set_ne hij]
      exact ih ((List.mem_cons.mp h).resolve_left fun z => hij z.symm)
theorem wipe_eq {σ' : L2.St} {vs ts : List Nat} (hs : ∀ j ∈ ts, j ∈ vs) (h : ∀ j : Nat, j ∉ ts → σ'[j]? = (wipe σ vs)[j]?) (hl : σ'.length = (wipe σ vs).length) : wipe σ' vs = wipe σ vs := by
  rw [wipe_length] at hl
  refine List.ext_getElem? fun j => ?_
  by_cases hj : j ∈ vs
  · by_cases hjl : j < σ.length
    · rw [wipe_in hj hjl, wipe_in hj (by rw [hl]; exact hjl)]
    · rw [List.getElem?_eq_none (by rw [wipe_length]; omega), List.getElem?_eq_none (by rw [wipe_length]; omega)]
  · rw [wipe_out hj]
    exact h j fun z => hj (hs j z)

/-- the body of a comprehension as the evaluator has it -/
def lcB (T : Tab) (cf : Cf) (t : Tg) (own : List Nat) (cs : List Ex) (e : Ex) (ρ : En) (v : P) (st3 : So) : Ou (Option P) := match asg t v (wip ρ own) with
  | some ρ1 => (evC T cf cs ρ1 st3).bind fun c st4 => if c then (evE T cf e ρ1 st4).bind (fun d st5 => match d with
      | .p z => .ok (some z) st5
      | _ => .bad) else .ok none st4
  | none => .bad
theorem evE_lc {t : Tg} {own : List Nat} {k : Nat} {a b e : Ex} {cs : List Ex} : evE T cf (.lc t own k a b cs e) ρ st = (itr k (evE T cf a ρ st) fun st1 => evE T cf b ρ st1).bind fun l st2 => lcL (lcB T cf t own cs e ρ) l [] st2 := by
  rw [evE]
  rfl
variable {t : Tg} {own : List Nat} {k : Nat} {ee : Ex} {cs : List Ex}
theorem big_lt : big < sizeLine := by decide
theorem lc_imp (hs : ∀ j ∈ tgs t, j ∈ own) : ∀ σ H Q, TF_ G T cf W (.lc t own k ea eb cs ee) σ H Q → tLc (TI_ G T cf W k ea eb) (TG_ G t) (TC_ G T cf W0 cs) (TE_ G T cf W0 ee) own σ H Q := by
  intro σ H Q ⟨av, as, ρ, st, R, E, q⟩
  rw [evE_lc] at q
  refine ⟨av, as, ρ, st, R, E, q.bind.mono fun l st2 as2 H2 l2 R2 q2 => ?_⟩
  have E2 := E.mono l2
  refine fun hl J hJ D hD => ?_
  have nav : ¬ av D := fun z => R2.tk D z hD
  refine ⟨fun i m H' => m = l.length - i ∧ ∃ as' st' acc vs H'', H' = upd H'' D (.lst vs) ∧ H'' D = none ∧ Le as2 H2 as' H'' ∧ RSt G av as' H'' st' ∧ RPs G (Av av as') H'' acc vs ∧ acc.length ≤ i ∧ i ≤ l.length ∧
    Pst G av W σ (fun d _ as' H' => ∃ l, d = .p (.lst l) ∧ ∀ p vs, H' p = none → RPs G (Av av as') H' l vs → Q (.ref p) (upd H' p (.lst vs))) as' H'' (lcL (lcB T cf t own cs ee ρ) (l.drop i) acc st'),
    ⟨l.length, by rw [Nat.sub_zero], as2, st2, [], [], H2, rfl, hD, Le.refl _ _, R2, rfl, Nat.le_refl _, Nat.zero_le _, q2⟩, fun i m H' ⟨hm, as', st', acc, vs, H'', e1, hD', l', R', hr, ha, hi, q'⟩ => ?_⟩
  subst e1
  have m1 : Mo (Av av as2) (Av (avD av D) as') H2 (upd H'' D (.lst vs)) := by
    refine ⟨fun a o h n => ?_, fun a z => ?_⟩
    · exact grow_new hD' a o (l'.mo.keep a o h n)
    · rcases z with (z | z) | z
      · exact .inl (.inl z)
      · rw [z]; exact .inr hD
      · exact l'.mo.less a (.inr z)
  have R1 : RSt G (avD av D) as' (upd H'' D (.lst vs)) st' := R'.add hD'
  obtain ⟨go, stop, yld⟩ := hJ _ _ _ m1 R1.tkA
  by_cases hil : i < l.length
  · refine .inr ⟨go i hil, fun H' => ∃ m', m' = l.length - (i + 1) ∧ m' = l.length - (i + 1) ∧ ∃ as' st' acc vs H'', H' = upd H'' D (.lst vs) ∧ H'' D = none ∧ Le as2 H2 as' H'' ∧ RSt G av as' H'' st' ∧ RPs G (Av av as') H'' acc vs ∧ acc.length ≤ i + 1 ∧ i + 1 ≤ l.length ∧
      Pst G av W σ (fun d _ as' H' => ∃ l, d = .p (.lst l) ∧ ∀ p vs, H' p = none → RPs G (Av av as') H' l vs → Q (.ref p) (upd H' p (.lst vs))) as' H'' (lcL (lcB T cf t own cs ee ρ) (l.drop (i + 1)) acc st'), fun H' ⟨m', h1, h2⟩ => ⟨m', by omega, h2⟩, fun x H3 hy => ?_⟩
    obtain ⟨z, hz, gw, rz⟩ := yld i x H3 hil hy
    have hd : l.drop i = z :: l.drop (i + 1) := by
      rw [List.drop_eq_getElem_cons hil]
      rw [List.getElem?_eq_getElem hil] at hz
      cases hz
      rfl
    rw [hd] at q'
    have q' : Pst G av W σ _ as' H'' (match lcB T cf t own cs ee ρ z st' with
      | .ok (some y) st1 => lcL (lcB T cf t own cs ee ρ) (l.drop (i + 1)) (acc ++ [y]) st1
      | .ok none st1 => lcL (lcB T cf t own cs ee ρ) (l.drop (i + 1)) acc st1
      | _ => .bad) := q'
    have R3 : RSt G (avD av D) as' H3 st' := R1.grow gw
    have E3 : REn G (avD av D) as' H3 (wip ρ own) (wipe σ own) := (((E2.mono l').mv (mo_add hD')).mono (Le.grow gw)).wip own
    unfold lcB at q'
    cases h1 : asg t z (wip ρ own) with
    | none => rw [h1] at q'; exact q'.elim
    | some ρ1 =>
      rw [h1] at q'
      dsimp only at q'
      refine ⟨avD av D, as', st', wip ρ own, z, ρ1, R3, E3, rz, h1, fun σ' E4 same hl2 => ⟨wipe_eq hs same hl2, ?_⟩⟩
      -- back: the list taken out
      have bk : ∀ {as4 : List (Option Addr)} {H4 : Hp} {st4 : So}, Le as' H3 as4 H4 → RSt G (avD av D) as4 H4 st4 → ∃ H4'', H4 = upd H4'' D (.lst vs) ∧ H4'' D = none ∧ Le as' H'' as4 H4'' ∧ RSt G av as4 H4'' st4 ∧ Mo (Av (avD av D) as4) (Av av as4) H4 H4'' ∧ H4 D = some (.lst vs) := by
        intro as4 H4 st4 l4 R4
        have hD4 : H4 D = some (.lst vs) := l4.kp D _ (gw D _ upd_same) (R'.ndD hD')
        refine ⟨del H4 D, (upd_del hD4).symm, del_self, ⟨l4.len, l4.old, fun j a hj e => ?_, fun a o h n => ?_, fun a h => ?_⟩, R4.sub nav, mo_del, hD4⟩
        · have := l4.nw j a hj e
          cases e2 : H'' a with
          | none => rfl
          | some o => rw [gw a o (grow_new hD' a o e2)] at this; cases this
        · have hne : a ≠ D := fun q => by rw [q, hD'] at h; cases h
          rw [del_ne hne]
          exact l4.kp a o (gw a o (grow_new hD' a o h)) n
        · have hne : a ≠ D := fun q => h (by rw [q]; exact hD')
          rw [del_ne hne]
          refine l4.tr a fun q => ?_
          cases e2 : H'' a with
          | none => exact h e2
          | some o => rw [gw a o (grow_new hD' a o e2)] at q; cases q
      refine ⟨avD av D, as', ρ1, st', R3, E4, ?_⟩
      cases h2 : evC T cf cs ρ1 st' with
      | bad => rw [h2] at q'; exact q'.elim
      | ex c ns ps st4 => rw [h2] at q'; exact q'.elim
      | ok cc st4 =>
        rw [h2] at q'
        intro as4 H4 l4 R4
        cases cc with
        | false =>
          rw [if_neg Bool.false_ne_true]
          obtain ⟨H4'', e4, hD4, le4, R4'', m4, _⟩ := bk l4 R4
          exact ⟨_, rfl, rfl, as4, st4, acc, vs, H4'', e4, hD4, l'.trans le4, R4'', RPs.mono le4.mo _ _ hr, by omega, hil, Pst.shift le4 q'⟩
        | true =>
          rw [if_pos rfl]
          refine ⟨avD av D, as4, ρ1, st4, R4, E4.mono l4, ?_⟩
          have q' : Pst G av W σ _ as' H'' (match (evE T cf ee ρ1 st4).bind (fun d st5 => match d with
            | .p z => Ou.ok (some z) st5
            | _ => .bad) with
            | .ok (some y) st1 => lcL (lcB T cf t own cs ee ρ) (l.drop (i + 1)) (acc ++ [y]) st1
            | .ok none st1 => lcL (lcB T cf t own cs ee ρ) (l.drop (i + 1)) acc st1
            | _ => .bad) := q'
          cases h3 : evE T cf ee ρ1 st4 with
          | bad => rw [h3] at q'; exact q'.elim
          | ex c ns ps st5 => rw [h3] at q'; exact q'.elim
          | ok d st5 =>
            rw [h3] at q'
            cases d with
            | r c => exact q'.elim
            | p y =>
              intro as5 H5 l5 R5 v rv
              obtain ⟨H5'', e5, hD5, le5, R5'', m5, hD5'⟩ := bk (l4.trans l5) R5
              refine ⟨vs, hD5', ?_, ?_⟩
              · exact Nat.lt_of_le_of_lt (by rw [← hr.len]; exact Nat.le_trans ha (Nat.le_trans hi hl)) big_lt
              · refine ⟨_, rfl, rfl, as5, st5, acc ++ [y], vs ++ [v], H5'', ?_, hD5, l'.trans le5, R5'', (RPs.mono le5.mo _ _ hr).app (RPs.one (RP.mono m5 _ _ rv)), by rw [List.length_append, List.length_singleton]; omega, hil, Pst.shift le5 q'⟩
                rw [e5]
                funext a
                by_cases e : a = D
                · rw [e, upd_same, upd_same]
                · rw [upd_ne e, upd_ne e, upd_ne e]
  · have : i = l.length := by omega
    subst this
    rw [List.drop_length] at q'
    obtain ⟨l3, e3, q3⟩ := Pst.now (a := Dp.D.p (.lst acc)) q' R'
    cases e3
    exact .inl ⟨stop, q3 D vs hD' hr⟩
theorem f_lc {iter elt : Expr} {ifs : List Expr} {scope : Scope} {ow : List (Str × Nat)} (hc : X.calm = true) (hN : X.N.Nodup) (hi : PI X tg iter (TI_ G T cf W k ea eb)) (ok : BlkOk X.N X.env.scope scope ow)
    (hg : ∀ (s : Shared) (H : Hp) (C : Addr) (cl : List (Str × Addr)) (fp : List Addr), PG (X.blk s H scope (compEnvC scope cl C X.env) fp) tg (TG_ G t))
    (ht : ∀ (s : Shared) (H : Hp) (C : Addr) (cl : List (Str × Addr)) (fp : List Addr), PTs (X.blk s H scope (compEnvC scope cl C X.env) fp) ifs (TC_ G T cf W0 cs))
    (he : ∀ (s : Shared) (H : Hp) (C : Addr) (cl : List (Str × Addr)) (fp : List Addr), PE (X.blk s H scope (compEnvC scope cl C X.env) fp) elt (TE_ G T cf W0 ee)) (hf : ∀ x, foldedSetIterable iter X.env x = pure x)
    (hs : ∀ j ∈ tgs t, j ∈ ow.map (·.2)) : PE X (.ListComp elt [⟨tg, iter, ifs, 0⟩] scope pos) (TF_ G T cf W (.lc t (ow.map (·.2)) k ea eb cs ee)) :=
  (pe_lc hc hN hi ok hg ht he hf).imp (lc_imp hs)
theorem lcL_lst {bd : P → So → Ou (Option P)} : ∀ (l acc : List P) (st : So) (d : D) (st' : So), lcL bd l acc st = .ok d st' → ∃ r, d = .p (.lst r)
  | [], acc, st, d, st', h => by
    cases h
    exact ⟨acc, rfl⟩
  | x :: l, acc, st, d, st', h => by
    rw [lcL] at h
    cases e : bd x st with
    | bad => rw [e] at h; cases h
    | ex c ns vs st1 => rw [e] at h; cases h
    | ok o st1 =>
      rw [e] at h
      cases o with
      | none => exact lcL_lst l _ _ _ _ h
      | some y => exact lcL_lst l _ _ _ _ h
theorem lc_lst {own : List Nat} {d : D} {st' : So} (h : evE T cf (.lc t own k ea eb cs ee) ρ st = .ok d st') : ∃ l, d = .p (.lst l) := by
  rw [evE_lc] at h
  cases e : itr k (evE T cf ea ρ st) fun st1 => evE T cf eb ρ st1 with
  | bad => rw [e] at h; cases h
  | ex c ns vs st1 => rw [e] at h; cases h
  | ok l st1 =>
    rw [e] at h
    exact lcL_lst _ _ _ _ _ h
end
end Dp
set_option Elab.async false
set_option linter.all false
set_option maxRecDepth 100000
set_option maxHeartbeats 200000
/-! Dp, part 9: statements. -/
namespace Dp
open PySem L2

/-- what is wanted behind a statement -/
def Sp (G : Gx) (av : Addr → Prop) (W : WX) (E : Ends) (as : List (Option Addr)) (H : Hp) : SO → Prop
  | .nx ρ st => ∀ σ' as' H', Le as H as' H' → RSt G av as' H' st → REn G av as' H' ρ σ' → E.nx σ' H'
  | .rt d st => ∀ v as' H', Le as H as' H' → RSt G av as' H' st → RD G av as' H' d v → E.rt v H'
  | .bk ρ st => ∀ σ' as' H', Le as H as' H' → RSt G av as' H' st → REn G av as' H' ρ σ' → E.bk σ' H'
  | .ct ρ st => ∀ σ' as' H', Le as H as' H' → RSt G av as' H' st → REn G av as' H' ρ σ' → E.ct σ' H'
  | .ex c ns ps ρ st => ∀ σ' as' H' dx vs, Le as H as' H' → RSt G av as' H' st → REn G av as' H' ρ σ' → H' dx = some (.xd (G.fs ns vs)) → ns.length = ps.length → RPs G (Av av as') H' ps vs → W (.ref (G.cad c)) (some dx) σ' H'
  | .bad => False
def TS_ (G : Gx) (T : Tab) (cf : Cf) (W : WX) (s : Sm) : TS := fun E σ H => ∃ av as ρ st, RSt G av as H st ∧ REn G av as H ρ σ ∧ Sp G av W E as H (evS T cf s ρ st)
def TB_ (G : Gx) (T : Tab) (cf : Cf) (W : WX) (l : List Sm) : TS := fun E σ H => ∃ av as ρ st, RSt G av as H st ∧ REn G av as H ρ σ ∧ Sp G av W E as H (evB T cf l ρ st)

theorem _root_.L2.PS.imp {X : Cx} {e : Stmt} {t t' : TS} (h : PS X e t) (i : ∀ E σ H, t' E σ H → t E σ H) : PS X e t' := ⟨fun pins s σ H E I q => h.run pins s σ H E I (i E σ H q)⟩
theorem _root_.L2.PSs.imp {X : Cx} {e : List Stmt} {t t' : TS} (h : PSs X e t) (i : ∀ E σ H, t' E σ H → t E σ H) : PSs X e t' := ⟨fun pins s σ H E I q => h.run pins s σ H E I (i E σ H q)⟩

section
variable {X : Cx} {G : Gx} {T : Tab} {cf : Cf} {W : WX} {av : Addr → Prop} {σ : L2.St} {as as' : List (Option Addr)} {H H' : Hp} {st : So} {ρ : En}
variable {a b c tg : Expr} {ea eb ec : Ex} {pos : Pos} {E : Ends}

theorem Sp.shift (l : Le as H as' H') : ∀ {o : SO}, Sp G av W E as H o → Sp G av W E as' H' o
  | .nx _ _, h => fun σ' a2 H2 l2 => h σ' a2 H2 (l.trans l2)
  | .rt _ _, h => fun v a2 H2 l2 => h v a2 H2 (l.trans l2)
  | .bk _ _, h => fun σ' a2 H2 l2 => h σ' a2 H2 (l.trans l2)
  | .ct _ _, h => fun σ' a2 H2 l2 => h σ' a2 H2 (l.trans l2)
  | .ex _ _ _ _ _, h => fun σ' a2 H2 dx vs l2 => h σ' a2 H2 dx vs (l.trans l2)
  | .bad, h => h
theorem Sp.to {α : Type} {f : α → So → SO} (N : REn G av as H ρ σ) : ∀ {x : Ou α}, Sp G av W E as H (Ou.to ρ x f) → Pst G av W σ (fun a st1 as1 H1 => Sp G av W E as1 H1 (f a st1)) as H x
  | .ok _ _, h => fun _ _ l _ => Sp.shift l h
  | .ex _ _ _ _, h => fun a2 H2 dx vs l r => h σ a2 H2 dx vs l r (N.mono l)
  | .bad, h => h
theorem se_step {f : D → So → SO} {e : Ex} {Q' : VK} (R : RSt G av as H st) (N : REn G av as H ρ σ) (h : Sp G av W E as H (Ou.to ρ (evE T cf e ρ st) f))
    (go : ∀ d st1 as1 H1 v, Le as H as1 H1 → RSt G av as1 H1 st1 → REn G av as1 H1 ρ σ → RD G av as1 H1 d v → Sp G av W E as1 H1 (f d st1) → Q' v H1) : TE_ G T cf W e σ H Q' :=
  ⟨av, as, ρ, st, R, N, (h.to N).mono fun d st1 as1 H1 l r q v rd => go d st1 as1 H1 v l r (N.mono l) rd q⟩
theorem sa_step {f : List D → So → SO} {e : List Ex} {Q' : List V → Hp → Prop} (R : RSt G av as H st) (N : REn G av as H ρ σ) (h : Sp G av W E as H (Ou.to ρ (evEs T cf e ρ st) f))
    (go : ∀ d st1 as1 H1 v, Le as H as1 H1 → RSt G av as1 H1 st1 → REn G av as1 H1 ρ σ → RDs G av as1 H1 d v → Sp G av W E as1 H1 (f d st1) → Q' v H1) : TA_ G T cf W e σ H Q' :=
  ⟨av, as, ρ, st, R, N, (h.to N).mono fun d st1 as1 H1 l r q v rd => go d st1 as1 H1 v l r (N.mono l) rd q⟩
theorem st_step {f : Bool → So → SO} {e : Ex} {Q' : Bool → Hp → Prop} (R : RSt G av as H st) (N : REn G av as H ρ σ) (h : Sp G av W E as H (Ou.to ρ (evT T cf e ρ st) f))
    (go : ∀ d st1 as1 H1, Le as H as1 H1 → RSt G av as1 H1 st1 → REn G av as1 H1 ρ σ → Sp G av W E as1 H1 (f d st1) → Q' d H1) : TT_ G T cf W e σ H Q' :=
  ⟨av, as, ρ, st, R, N, (h.to N).mono fun d st1 as1 H1 l r q => go d st1 as1 H1 l r (N.mono l) q⟩

/-! ### blocks -/
theorem b_nil : PSs X [] (TB_ G T cf W []) := pss_nil.imp fun E σ H ⟨av, as, ρ, st, R, N, q⟩ => q σ as H (Le.refl _ _) R N
theorem b_cons {s : Stmt} {r : List Stmt} {m : Sm} {l : List Sm} (h1 : PS X s (TS_ G T cf W m)) (h2 : PSs X r (TB_ G T cf W l)) : PSs X (s :: r) (TB_ G T cf W (m :: l)) := by
  refine (pss_cons h1 h2).imp fun E σ H ⟨av, as, ρ, st, R, N, q⟩ => ⟨av, as, ρ, st, R, N, ?_⟩
  rw [evB] at q
  cases e : evS T cf m ρ st with
  | nx ρ1 st1 =>
    rw [e] at q
    exact fun σ' as' H' l1 R1 N1 => ⟨av, as', ρ1, st1, R1, N1, Sp.shift l1 q⟩
  | rt d st1 => rw [e] at q; exact q
  | bk ρ1 st1 => rw [e] at q; exact q
  | ct ρ1 st1 => rw [e] at q; exact q
  | ex c ns ps ρ1 st1 => rw [e] at q; exact q
  | bad => rw [e] at q; exact q
/-- a cell is deep from here on -/
theorem RSt.die {c : Nat} {l : List P} (R : RSt G av as H st) (h : st[c]? = some (.lst l)) : ∃ a as', as[c]? = some (some a) ∧ Le as H as' H ∧ RSt G av as' H (st.set c .dead) ∧ RP G (Av av as') H (.lst l) (.ref a) := by
  obtain ⟨a, ha⟩ := R.al c _ h (by intro q; cases q)
  obtain ⟨y, hy, ok⟩ := R.ok c a ha
  rw [h] at hy
  cases hy
  obtain ⟨vs, h1, h2⟩ := ok
  have old : ∀ (i : Nat) b, (as.set c none)[i]? = some (some b) → as[i]? = some (some b) ∧ i ≠ c := fun i b e => by
    by_cases hi : c = i
    · subst hi
      rw [List.getElem?_set_self (ix_lt ha)] at e
      cases e
    · rw [List.getElem?_set_ne hi] at e
      exact ⟨e, fun z => hi z.symm⟩
  have sub : ∀ b, some b ∈ as.set c none → some b ∈ as := fun b z => by
    obtain ⟨i, hi⟩ := mem_ix z
    exact ix_mem (old i b hi).1
  have le : Le as H (as.set c none) H := ⟨by rw [List.length_set]; exact Nat.le_refl _, fun i b _ e => (old i b e).1, fun i b hi e => absurd (ix_lt (old i b e).1) (Nat.not_lt.mpr hi), fun _ _ h _ => h, fun _ h => h⟩
  refine ⟨a, as.set c none, ha, le, ⟨by rw [List.length_set, List.length_set]; exact R.len, fun i x e hn => ?_, fun i b e => ?_, fun i j b e1 e2 => R.nd i j b (old i b e1).1 (old j b e2).1, fun i b e => R.dj i b (old i b e).1, R.tk⟩, ?_⟩
  · by_cases hi : c = i
    · subst hi
      rw [List.getElem?_set_self (ix_lt h)] at e
      cases e
      exact absurd rfl hn
    · rw [List.getElem?_set_ne hi] at e
      obtain ⟨b, hb⟩ := R.al i x e hn
      exact ⟨b, by rw [List.getElem?_set_ne hi]; exact hb⟩
  · obtain ⟨e1, hi⟩ := old i b e
    obtain ⟨x, hx, ok⟩ := R.ok i b e1
    exact ⟨x, by rw [List.getElem?_set_ne (Ne.symm hi)]; exact hx, ok.mono le.mo rfl⟩
  · refine ⟨a, vs, rfl, h1, fun z => ?_, RPs.mono le.mo _ _ h2⟩
    rcases z with z | z
    · exact R.dj c a ha z
    · obtain ⟨i, hi⟩ := mem_ix z
      obtain ⟨e1, hn⟩ := old i a hi
      exact hn (R.nd i c a e1 ha)
theorem b_fz {r : List Stmt} {i : Nat} {l : List Sm} (h : PSs X r (TB_ G T cf W l)) : PSs X r (TB_ G T cf W (.fz i :: l)) := by
  refine h.imp fun E σ H ⟨av, as, ρ, st, R, N, q⟩ => ?_
  rw [evB, evS] at q
  cases e : ρ[i]? with
  | none => rw [e] at q; exact q.elim
  | some o =>
    rw [e] at q
    cases o with
    | none => exact q.elim
    | some d =>
      cases d with
      | p x => exact ⟨av, as, ρ, st, R, N, q⟩
      | r c =>
        dsimp only at q
        cases e2 : st[c]? with
        | none => rw [e2] at q; exact q.elim
        | some x =>
          rw [e2] at q
          cases x with
          | lst l =>
            obtain ⟨a, as', ha, le, R', rp⟩ := R.die e2
            obtain ⟨v, hv, rd⟩ := N.at_ i _ e
            obtain rfl := rd.2 a ha
            have N' := (N.mono le).set i (d := .p (.lst l)) rp
            rw [show σ.set i (some (V.ref a)) = σ from ?_] at N'
            · exact ⟨av, as', _, _, R', N', Sp.shift le q⟩
            · refine List.ext_getElem? fun j => ?_
              by_cases hij : i = j
              · subst hij
                rw [List.getElem?_set_self (ix_lt hv), hv]
              · rw [List.getElem?_set_ne hij]
          | ins _ _ _ => exact q.elim
          | dead => exact q.elim

/-! ### small statements -/
theorem p_pass : PS X (.Pass pos) (TS_ G T cf W .ps) := ps_pass.imp fun E σ H ⟨av, as, ρ, st, R, N, q⟩ => q σ as H (Le.refl _ _) R N
theorem p_doc {x : Str} {j : Nat} {p2 : Pos} : PS X (.Expr (.Constant (.str x) j p2) pos) (TS_ G T cf W .ps) := ps_doc.imp fun E σ H ⟨av, as, ρ, st, R, N, q⟩ => q σ as H (Le.refl _ _) R N
theorem p_break : PS X (.Break pos) (TS_ G T cf W .br) := ps_break.imp fun E σ H ⟨av, as, ρ, st, R, N, q⟩ => q σ as H (Le.refl _ _) R N
theorem p_cont : PS X (.Continue pos) (TS_ G T cf W .ct) := ps_continue.imp fun E σ H ⟨av, as, ρ, st, R, N, q⟩ => q σ as H (Le.refl _ _) R N
theorem p_retN : PS X (.Return none pos) (TS_ G T cf W .rn) := ps_retN.imp fun E σ H ⟨av, as, ρ, st, R, N, q⟩ => q .non as H (Le.refl _ _) R rfl
theorem p_ret (ha : PE X a (TE_ G T cf W ea)) : PS X (.Return (some a) pos) (TS_ G T cf W (.rt ea)) :=
  (ps_ret ha).imp fun E σ H ⟨av, as, ρ, st, R, N, q⟩ => se_step R N q fun d st1 as1 H1 v l R1 N1 rd q1 => q1 v as1 H1 (Le.refl _ _) R1 rd
theorem p_expr (ha : PE X a (TE_ G T cf W ea)) (hs : swapsWith a none pos.line X.env = pure false) : PS X (.Expr a pos) (TS_ G T cf W (.ex ea)) :=
  (ps_expr ha hs).imp fun E σ H ⟨av, as, ρ, st, R, N, q⟩ => se_step R N q fun d st1 as1 H1 v l R1 N1 rd q1 => q1 σ as1 H1 (Le.refl _ _) R1 N1
theorem p_if {r1 r2 : List Stmt} {l1 l2 : List Sm} (hc : PT X c (TT_ G T cf W ec)) (h1 : PSs X r1 (TB_ G T cf W l1)) (h2 : PSs X r2 (TB_ G T cf W l2)) : PS X (.If c r1 r2 pos) (TS_ G T cf W (.if_ ec l1 l2)) :=
  (ps_if hc h1 h2).imp fun E σ H ⟨av, as, ρ, st, R, N, q⟩ => by
    rw [evS] at q
    refine st_step R N q fun d st1 as1 H1 l R1 N1 q1 => ?_
    cases d with
    | true => exact ⟨av, as1, ρ, st1, R1, N1, q1⟩
    | false => exact ⟨av, as1, ρ, st1, R1, N1, q1⟩

/-! ### stores -/
theorem as_fin {i : Nat} {d : D} {v : V} (R : RSt G av as H st) (N : REn G av as H ρ σ) (rd : RD G av as H d v) (q : Sp G av W E as H (if i < ρ.length then .nx (ρ.set i (some d)) st else .bad)) : E.nx (σ.set i (some v)) H := by
  by_cases h : i < ρ.length
  · rw [if_pos h] at q
    exact q _ as H (Le.refl _ _) R (N.set i rd)
  · rw [if_neg h] at q
    exact q.elim
theorem p_as {i : Nat} {x : Str} {p2 : Pos} (hN : X.N.Nodup) (hi : X.N[i]? = some x) (hx : Loc X.env.scope x) (ha : PE X a (TE_ G T cf W ea)) (hs : swapsWith a (some (.Name x p2)) pos.line X.env = pure false) (hf : X.fn x = true ∨ X.env.scope.names.lookup x = some .local) :
    PS X (.Assign [.Name x p2] a pos) (TS_ G T cf W (.as i ea)) :=
  (ps_set hN hi hx ha hs hf).imp fun E σ H ⟨av, as, ρ, st, R, N, q⟩ => by
    rw [evS] at q
    exact se_step R N q fun d st1 as1 H1 v l R1 N1 rd q1 => as_fin R1 N1 rd q1
theorem p_asg {t : Tg} (ha : PE X a (TE_ G T cf W ea)) (hg : PG X tg (TG_ G t)) (hs : swapsWithSole [tg] a pos.line X.env = pure false) (hw : swappedStores [tg] a X.env = pure none) (h1 : (assignEach [tg] X.env).map (·.2) = [assign tg X.env]) :
    PS X (.Assign [tg] a pos) (TS_ G T cf W (.at t ea)) :=
  (ps_asg ha hg hs hw h1).imp fun E σ H ⟨av, as, ρ, st, R, N, q⟩ => by
    rw [evS] at q
    refine se_step R N q fun d st1 as1 H1 v l R1 N1 rd q1 => ?_
    cases d with
    | r c => exact q1.elim
    | p x =>
      dsimp only at q1
      cases e : asg t x ρ with
      | none => rw [e] at q1; exact q1.elim
      | some ρ1 =>
        rw [e] at q1
        exact ⟨av, as1, st1, ρ, x, ρ1, R1, N1, rd, e, fun σ' N2 _ _ => q1 σ' as1 H1 (Le.refl _ _) R1 N2⟩
theorem setAll_ren : ∀ {is : List Nat} {ds : List D} {vs : List V} {ρ ρ' : En} {σ : L2.St}, REn G av as H ρ σ → RDs G av as H ds vs → setAll is ds ρ = some ρ' → ∃ σ', REn G av as H ρ' σ' ∧ σ' = (is.zip vs).foldl (fun s p => s.set p.1 (some p.2)) σ ∧ is.length = vs.length
  | [], [], _, _, _, σ, N, h, e => by
    cases e
    rw [show _ = [] from h]
    exact ⟨σ, N, rfl, rfl⟩
  | [], _ :: _, _, _, _, _, _, _, e => by cases e
  | _ :: _, [], _, _, _, _, _, _, e => by cases e
  | i :: is, d :: ds, vs, ρ, ρ', σ, N, h, e => by
    obtain ⟨v, w, rfl, h1, h2⟩ := h
    have e : (if i < ρ.length then setAll is ds (ρ.set i (some d)) else none) = some ρ' := e
    by_cases hi : i < ρ.length
    · rw [if_pos hi] at e
      obtain ⟨σ', N', hs, hl⟩ := setAll_ren (N.set i h1) h2 e
      exact ⟨σ', N', hs, by rw [List.length_cons, List.length_cons, hl]⟩
    · rw [if_neg hi] at e
      cases e
theorem ap_fin {is : List Nat} {ds : List D} {vs : List V} (R : RSt G av as H st) (N : REn G av as H ρ σ) (rd : RDs G av as H ds vs) (q : Sp G av W E as H (match setAll is ds ρ with
    | some ρ1 => .nx ρ1 st
    | none => .bad)) : is.length = vs.length ∧ ∃ σ', E.nx σ' H ∧ σ' = (is.zip vs).foldl (fun s p => s.set p.1 (some p.2)) σ := by
  cases e : setAll is ds ρ with
  | none => rw [e] at q; exact q.elim
  | some ρ1 =>
    rw [e] at q
    obtain ⟨σ', N', hs, hl⟩ := setAll_ren N rd e
    exact ⟨hl, σ', q σ' as H (Le.refl _ _) R N', hs⟩
theorem p_ap2 {i j : Nat} {x y : Str} {px py pt pt2 : Pos} {kt k2 : Nat} (hc : X.calm = true) (hN : X.N.Nodup) (hi : X.N[i]? = some x) (hj : X.N[j]? = some y) (hij : i ≠ j)
    (hx : X.env.scope.names.lookup x = some .local) (hy : X.env.scope.names.lookup y = some .local) (ha : PA X [a, b] (TA_ G T cf W [ea, eb])) (hw : swappedStores [.Tuple [.Name x px, .Name y py] kt pt] (.Tuple [a, b] k2 pt2) X.env = pure (some [x, y])) :
    PS X (.Assign [.Tuple [.Name x px, .Name y py] kt pt] (.Tuple [a, b] k2 pt2) pos) (TS_ G T cf W (.ap [i, j] [ea, eb])) :=
  (ps_par hc hN hi hj hij hx hy ha hw rfl).imp fun E σ H ⟨av, as, ρ, st, R, N, q⟩ => by
    rw [evS] at q
    refine sa_step R N q fun d st1 as1 H1 v l R1 N1 rd q1 => ?_
    obtain ⟨hl, σ', q2, hs⟩ := ap_fin R1 N1 rd q1
    match v, hl with
    | [v1, v2], _ => exact ⟨v1, v2, rfl, by rw [hs] at q2; exact q2⟩
/-- names, of any kind, by a tuple that nobody else sees -/
def gSets (is : List Nat) : TGs := fun vs σ H Q => is.length = vs.length ∧ Q ((is.zip vs).foldl (fun s p => s.set p.1 (some p.2)) σ) H
structure NmT (X : Cx) (e : Expr) (i : Nat) : Prop where
  ns : ∀ x p, e ≠ .Starred x p
  go : PG X e (gName i)
theorem nm_t {i : Nat} {x : Str} {p : Pos} (hN : X.N.Nodup) (hi : X.N[i]? = some x) (hx : Loc X.env.scope x) (hf : X.fn x = true ∨ X.env.scope.names.lookup x = some .local) : NmT X (.Name x p) i :=
  ⟨fun _ _ h => (by cases h), pg_name hN hi hx hf⟩
inductive NmTs (X : Cx) : List Expr → List Nat → Prop where
  | nil : NmTs X [] []
  | cons {e : Expr} {i : Nat} {es : List Expr} {is : List Nat} : NmT X e i → NmTs X es is → NmTs X (e :: es) (i :: is)
theorem NmTs.go : ∀ {es : List Expr} {is : List Nat}, NmTs X es is → PGs X es (gSets is) ∧ es.length = is.length ∧ ∀ e ∈ es, ∀ x p, e ≠ .Starred x p
  | _, _, .nil => by
    refine ⟨pgs_nil.imp fun vs σ H Q ⟨h, q⟩ => ?_, rfl, fun e h => by cases h⟩
    cases vs with
    | nil => exact ⟨rfl, q⟩
    | cons v r => cases h
  | _, _, .cons (es := es) (is := is) h1 h2 => by
    obtain ⟨g, hl, hn⟩ := h2.go
    refine ⟨(pgs_cons h1.go g (by rw [each_cons h1.ns]; rfl)).imp fun vs σ H Q ⟨h, q⟩ => ?_, by rw [List.length_cons, List.length_cons, hl], fun e he => ?_⟩
    · cases vs with
      | nil => cases h
      | cons v r =>
        rw [List.length_cons, List.length_cons] at h
        exact ⟨v, r, rfl, Nat.succ.inj h, q⟩
    · rcases List.mem_cons.mp he with rfl | he
      · exact h1.ns
      · exact hn e he
theorem p_apN {ts es : List Expr} {is : List Nat} {ees : List Ex} {kt k2 : Nat} {pt pt2 : Pos} (hK : G.K = X.K) (hc : X.calm = true) (hn : NmTs X ts is) (ha : PA X es (TA_ G T cf W ees)) (hl : is.length ≤ 1000)
    (hw : swappedStores [.Tuple ts kt pt] (.Tuple es k2 pt2) X.env = pure none) : PS X (.Assign [.Tuple ts kt pt] (.Tuple es k2 pt2) pos) (TS_ G T cf W (.ap is ees)) := by
  obtain ⟨g, hlen, hns⟩ := hn.go
  obtain ⟨n1, n2⟩ := each_len (env := X.env) hns
  refine (ps_asg (pe_tup ha) (pg_tup hc g n1 n2) rfl hw rfl).imp fun E σ H ⟨av, as, ρ, st, R, N, q⟩ => ?_
  rw [evS] at q
  refine sa_step R N q fun d st1 as1 H1 v l R1 N1 rd q1 => ?_
  have hv : v.length = is.length := by
    cases e : setAll is d ρ with
    | none => rw [e] at q1; exact q1.elim
    | some ρ1 => obtain ⟨_, _, _, h⟩ := setAll_ren N1 rd e; exact h.symm
  refine ⟨by rw [hv]; exact fits' hl, fun p hp => ⟨p, v, rfl, .inl (.inl upd_same), by rw [hv, hlen], ?_⟩⟩
  obtain ⟨hl2, σ', q2, hs⟩ := ap_fin (R1.grow (grow_new hp)) (N1.mono (Le.grow (grow_new hp))) (rd.mono (Le.grow (grow_new hp))) (Sp.shift (Le.grow (grow_new hp)) q1)
  exact ⟨hl2, by rw [← hs]; exact q2⟩
end
end Dp
set_option Elab.async false
set_option linter.all false
set_option maxRecDepth 100000
set_option maxHeartbeats 200000
/-! Dp, part 10: writes to cells, loops. -/
namespace Dp
open PySem L2

section
variable {X : Cx} {G : Gx} {T : Tab} {cf : Cf} {W : WX} {av : Addr → Prop} {σ : L2.St} {as as' : List (Option Addr)} {H H' : Hp} {st : So} {ρ : En}
variable {a b c tg : Expr} {ea eb ec : Ex} {pos : Pos} {E : Ends}

theorem Le.put {i : Nat} {a : Addr} {o : HO} (ha : as[i]? = some (some a)) : Le as H as (upd H a o) :=
  ⟨Nat.le_refl _, fun _ _ _ h => h, fun i a hi h => absurd (ix_lt h) (Nat.not_lt.mpr hi), fun b u h n => by
    rw [upd_ne fun z => n (by rw [z]; exact ix_mem ha)]
    exact h, fun b h => by
    by_cases e : b = a
    · rw [e, upd_same]; intro z; cases z
    · rw [upd_ne e]; exact h⟩
theorem RSt.put {i : Nat} {a : Addr} {o : HO} {x : Cl} (R : RSt G av as H st) (ha : as[i]? = some (some a)) (hn : x ≠ .dead) (new : ROk G (Av av as) (upd H a o) a x) : RSt G av as (upd H a o) (st.set i x) := by
  have m : Mo (Av av as) (Av av as) H (upd H a o) := (Le.put ha).mo
  have hi : i < st.length := by rw [← R.len]; exact ix_lt ha
  refine ⟨by rw [List.length_set]; exact R.len, fun j c e hc => ?_, fun j b e => ?_, R.nd, R.dj, fun b z => ?_⟩
  · by_cases hij : i = j
    · subst hij
      exact ⟨a, ha⟩
    · rw [List.getElem?_set_ne hij] at e
      exact R.al j c e hc
  · by_cases hij : i = j
    · subst hij
      rw [ha] at e
      cases e
      exact ⟨x, List.getElem?_set_self hi, new⟩
    · obtain ⟨c, hc, ok⟩ := R.ok j b e
      refine ⟨c, by rw [List.getElem?_set_ne hij]; exact hc, ok.mono m (upd_ne fun z => hij (R.nd i j a ha (by rw [← z]; exact e)))⟩
  · by_cases e : b = a
    · rw [e, upd_same]; intro q; cases q
    · rw [upd_ne e]; exact R.tk b z

/-! ### o[i] = e -/
theorem ixN_of {l : List P} {j : Int} (h0 : 0 ≤ j) (h1 : j < l.length) : ixN l.length j = some j.toNat := by
  unfold ixN
  rw [if_pos h0]
  rw [if_pos (by omega)]
theorem p_sx {p2 : Pos} (ho : PE X a (TE_ G T cf W ea)) (hi : PE X b (TE_ G T cf W eb)) (he : PE X c (TE_ G T cf W ec)) (hs : swapsWithSole [.Subscript a b p2] c pos.line X.env = pure false)
    (ha : ∀ v, assign (.Subscript a b p2) X.env v = (do
      let ov ← holding [v] (eval a X.env)
      let iv ← holding [v, ov] (eval b X.env)
      standAt p2
      holding [v, ov, iv] (setItem ov iv v)
      release [v, ov, iv] [])) : PS X (.Assign [.Subscript a b p2] c pos) (TS_ G T cf W (.sx ea eb ec)) := by
  refine (ps_asg he (pg_sub ho hi set_list ha) hs rfl rfl).imp fun E σ H ⟨av, as, ρ, st, R, N, q⟩ => ?_
  rw [evS] at q
  refine se_step R N q fun v st1 as1 H1 v1 l1 R1 N1 rd1 q1 => ?_
  refine se_step R1 N1 q1 fun d st2 as2 H2 v2 l2 R2 N2 rd2 q2 => ?_
  refine se_step R2 N2 q2 fun k st3 as3 H3 v3 l3 R3 N3 rd3 q3 => ?_
  have rd1' := (rd1.mono l2).mono l3
  unfold sxF at q3
  have rd2' := rd2.mono l3
  cases v with
  | r _ => exact q3.elim
  | p x =>
    cases d with
    | p _ => exact q3.elim
    | r c =>
      cases k with
      | r _ => exact q3.elim
      | p y =>
        cases y with
        | int j =>
          dsimp only at q3
          cases e : st3[c]? with
          | none => rw [e] at q3; exact q3.elim
          | some z =>
            rw [e] at q3
            cases z with
            | lst l =>
              dsimp only at q3
              by_cases hj : 0 ≤ j ∧ j < l.length
              · rw [if_pos hj] at q3
                obtain ⟨p, rfl, hp, vs, h1, h2⟩ := R3.at_ e (by intro q; cases q) rd2'
                have m : Mo (Av av as3) (Av av as3) H3 (upd H3 p (.lst (vs.set j.toNat v1))) := (Le.put hp).mo
                have R4 := R3.put (x := .lst (l.set j.toNat x)) (o := .lst (vs.set j.toNat v1)) hp (by intro q; cases q) ⟨_, upd_same, RPs.mono m _ _ (h2.set _ rd1')⟩
                refine ⟨p, vs, j, j.toNat, rfl, rd3, h1, by rw [← h2.len]; exact ixN_of hj.1 hj.2, ?_⟩
                exact q3 σ as3 _ (Le.put hp) R4 (N3.mono (Le.put hp))
              · rw [if_neg hj] at q3
                exact q3.elim
            | _ => exact q3.elim
        | _ => exact q3.elim

/-! ### o.append(e) -/
theorem p_app {apos cpos : Pos} (hK : G.K = X.K) (ho : PE X a (TE_ G T cf W ea)) (he : PE X b (TE_ G T cf W eb)) (hs : starEach [b] X.env = [(false, eval b X.env)]) (hbase : attributeBase a "append" X.env (eval a X.env) = eval a X.env) (hline : (apos.endLine == cpos.line) = true) :
    PS X (.Expr (.Call (.Attribute a "append" apos) [b] [] cpos) pos) (TS_ G T cf W (.app ea eb)) := by
  refine (ps_expr (pe_bm PySem.F.plainAttrs_list PySem.F.slot_list_append PySem.F.type_list_append mt_append ho (pa_cons he pa_nil hs) hbase (by rw [hs]; rfl) hline hs rfl) rfl).imp fun E σ H ⟨av, as, ρ, st, R, N, q⟩ => ?_
  rw [evS] at q
  refine se_step R N q fun d st1 as1 H1 v1 l1 R1 N1 rd1 q1 => ?_
  cases d with
  | p _ => exact q1.elim
  | r c =>
    by_cases hc : isLs st1 (.r c) = true
    · rw [if_pos hc] at q1
      refine ⟨?_, se_step R1 N1 q1 fun d2 st2 as2 H2 v2 l2 R2 N2 rd2 q2 => ?_⟩
      · unfold isLs at hc
        dsimp only at hc
        cases e : st1[c]? with
        | none => rw [e] at hc; cases hc
        | some z =>
          rw [e] at hc
          cases z with
          | lst l =>
            obtain ⟨p, rfl, _, vs, h1, h2⟩ := R1.at_ e (by intro q; cases q) rd1
            exact .inl ⟨rfl, vs, .of h1⟩
          | _ => cases hc
      · have rd1' := rd1.mono l2
        cases d2 with
        | r _ => exact q2.elim
        | p x =>
          unfold apF at q2
          dsimp only at q2
          cases e : st2[c]? with
          | none => rw [e] at q2; exact q2.elim
          | some z =>
            rw [e] at q2
            cases z with
            | lst l =>
              dsimp only at q2
              by_cases hj : l.length ≤ big
              · rw [if_pos hj] at q2
                obtain ⟨p, rfl, hp, vs, h1, h2⟩ := R2.at_ e (by intro q; cases q) rd1'
                have m : Mo (Av av as2) (Av av as2) H2 (upd H2 p (.lst (vs ++ [v2]))) := (Le.put hp).mo
                have R4 := R2.put (x := .lst (l ++ [x])) (o := .lst (vs ++ [v2])) hp (by intro q; cases q) ⟨_, upd_same, RPs.mono m _ _ (h2.app (RPs.one rd2))⟩
                exact ⟨p, vs, v2, rfl, rfl, h1, by rw [← h2.len]; exact Nat.lt_of_le_of_lt hj big_lt, q2 σ as2 _ (Le.put hp) R4 (N2.mono (Le.put hp))⟩
              · rw [if_neg hj] at q2
                exact q2.elim
            | _ => exact q2.elim
    · rw [if_neg hc] at q1
      exact q1.elim

/-! ### loops -/
variable {t : Tg} {k : Nat} {l : List Sm}
def forB (T : Tab) (cf : Cf) (t : Tg) (l : List Sm) (v : P) (ρ1 : En) (st3 : So) : SO := match asg t v ρ1 with
  | some ρ2 => evB T cf l ρ2 st3
  | none => .bad
theorem p_for {body : List Stmt} (hp : PassesOwn (model X.prog X.w) X.A X.env X.xe) (hc : X.calm = true) (hi : PI X tg a (TI_ G T cf W k ea eb)) (hg : PG X tg (TG_ G t)) (hb : PSs X body (TB_ G T cf W l)) (hs : ∀ x, foldedSetIterable a X.env x = pure x) :
    PS X (.For tg a body [] pos) (TS_ G T cf W (.for_ t k ea eb l)) := by
  refine (ps_for hp hc hi hg hb hs).imp fun E σ H ⟨av, as, ρ, st, R, N, q⟩ => ?_
  have q : Sp G av W E as H (Ou.to ρ (itr k (evE T cf ea ρ st) fun st1 => evE T cf eb ρ st1) fun xs st2 => forL (forB T cf t l) xs ρ st2) := by
    rw [evS] at q
    exact q
  refine ⟨av, as, ρ, st, R, N, (q.to N).mono fun xs st2 as2 H2 l2 R2 q2 => ?_⟩
  have N2 := N.mono l2
  refine fun hl J hJ => ⟨fun i m σ' H' => m = xs.length - i ∧ ∃ as' st' ρ', Le as2 H2 as' H' ∧ RSt G av as' H' st' ∧ REn G av as' H' ρ' σ' ∧ i ≤ xs.length ∧ Sp G av W E as' H' (forL (forB T cf t l) (xs.drop i) ρ' st'),
    ⟨xs.length, by rw [Nat.sub_zero], as2, st2, ρ, Le.refl _ _, R2, N2, Nat.zero_le _, q2⟩, fun i m σ' H' ⟨hm, as', st', ρ', l', R', N', hi, q'⟩ => ?_⟩
  obtain ⟨go, stop, yld⟩ := hJ _ _ _ l'.mo R'.tkA
  by_cases hil : i < xs.length
  · refine .inr ⟨go i hil, fun σ2 H2' => ∃ m', m' = xs.length - (i + 1) ∧ m' = xs.length - (i + 1) ∧ ∃ as' st' ρ', Le as2 H2 as' H2' ∧ RSt G av as' H2' st' ∧ REn G av as' H2' ρ' σ2 ∧ i + 1 ≤ xs.length ∧ Sp G av W E as' H2' (forL (forB T cf t l) (xs.drop (i + 1)) ρ' st'),
      fun σ2 H2' ⟨m', h1, h2⟩ => ⟨m', by omega, h2⟩, fun x H3 hy => ?_⟩
    obtain ⟨z, hz, gw, rz⟩ := yld i x H3 hil hy
    have hd : xs.drop i = z :: xs.drop (i + 1) := by
      rw [List.drop_eq_getElem_cons hil]
      rw [List.getElem?_eq_getElem hil] at hz
      cases hz
      rfl
    rw [hd, forL] at q'
    have R3 := R'.grow gw
    have N3 := N'.mono (Le.grow gw)
    unfold forB at q'
    cases h1 : asg t z ρ' with
    | none => rw [h1] at q'; exact q'.elim
    | some ρ1 =>
      rw [h1] at q'
      dsimp only at q'
      refine ⟨av, as', st', ρ', z, ρ1, R3, N3, rz, h1, fun σ4 N4 _ _ => ⟨av, as', ρ1, st', R3, N4, ?_⟩⟩
      cases h2 : evB T cf l ρ1 st' with
      | bad => rw [h2] at q'; exact q'.elim
      | nx ρ5 st5 =>
        rw [h2] at q'
        exact fun σ5 as5 H5 l5 R5 N5 => ⟨_, rfl, rfl, as5, st5, ρ5, (l'.trans (Le.grow gw)).trans l5, R5, N5, hil, Sp.shift ((Le.grow gw).trans l5) q'⟩
      | ct ρ5 st5 =>
        rw [h2] at q'
        exact fun σ5 as5 H5 l5 R5 N5 => ⟨_, rfl, rfl, as5, st5, ρ5, (l'.trans (Le.grow gw)).trans l5, R5, N5, hil, Sp.shift ((Le.grow gw).trans l5) q'⟩
      | bk ρ5 st5 =>
        rw [h2] at q'
        exact Sp.shift (Le.grow gw) (o := .nx ρ5 st5) q'
      | rt d st5 =>
        rw [h2] at q'
        exact Sp.shift (Le.grow gw) (o := .rt d st5) q'
      | ex c ns ps ρ5 st5 =>
        rw [h2] at q'
        exact Sp.shift (Le.grow gw) (o := .ex c ns ps ρ5 st5) q'
  · have : i = xs.length := by omega
    subst this
    rw [List.drop_length] at q'
    exact .inl ⟨stop, q' σ' as' H' (Le.refl _ _) R' N'⟩
theorem p_while {body : List Stmt} (hp : PassesOwn (model X.prog X.w) X.A X.env X.xe) (hc : PT X c (TT_ G T cf W ec)) (hb : PSs X body (TB_ G T cf W l)) : PS X (.While c body [] pos) (TS_ G T cf W (.wh ec l)) := by
  refine (ps_while hp hc hb).imp fun E σ H ⟨av, as, ρ, st, R, N, q⟩ => ?_
  rw [evS] at q
  refine ⟨fun m σ H => ∃ as ρ st, RSt G av as H st ∧ REn G av as H ρ σ ∧ Sp G av W E as H (whL (evT T cf ec) (evB T cf l) m ρ st), ⟨T.wf, as, ρ, st, R, N, q⟩, fun m σ H ⟨as, ρ, st, R, N, q⟩ => ?_⟩
  cases m with
  | zero => exact q.elim
  | succ m =>
    rw [whL] at q
    refine st_step R N q fun b st1 as1 H1 l1 R1 N1 q1 => ?_
    cases b with
    | false =>
      rw [if_neg Bool.false_ne_true]
      exact q1 σ as1 H1 (Le.refl _ _) R1 N1
    | true =>
      rw [if_pos rfl]
      rw [if_pos rfl] at q1
      refine ⟨fun σ H => ∃ as ρ st, RSt G av as H st ∧ REn G av as H ρ σ ∧ Sp G av W E as H (whL (evT T cf ec) (evB T cf l) m ρ st), fun σ' H' h => ⟨m, Nat.lt_succ_self _, h⟩, av, as1, ρ, st1, R1, N1, ?_⟩
      cases h2 : evB T cf l ρ st1 with
      | bad => rw [h2] at q1; exact q1.elim
      | nx ρ5 st5 =>
        rw [h2] at q1
        exact fun σ5 as5 H5 l5 R5 N5 => ⟨as5, ρ5, st5, R5, N5, Sp.shift l5 q1⟩
      | ct ρ5 st5 =>
        rw [h2] at q1
        exact fun σ5 as5 H5 l5 R5 N5 => ⟨as5, ρ5, st5, R5, N5, Sp.shift l5 q1⟩
      | bk ρ5 st5 => rw [h2] at q1; exact q1
      | rt d st5 => rw [h2] at q1; exact q1
      | ex c ns ps ρ5 st5 => rw [h2] at q1; exact q1
end
end Dp
set_option Elab.async false
set_option linter.all false
set_option maxRecDepth 100000
set_option maxHeartbeats 200000
/-! Dp, part 11: more forms. -/
namespace Dp
open PySem L2

section
variable {X : Cx} {G : Gx} {T : Tab} {cf : Cf} {W : WX} {av : Addr → Prop} {σ : L2.St} {as as' : List (Option Addr)} {H H' : Hp} {st : So} {ρ : En}
variable {a b c tg : Expr} {ea eb ec : Ex} {pos : Pos} {E : Ends}

/-! ### x + y, a new list -/
theorem add_inv {x y : P} {l : List P} (h : op2 .add x y = some (.lst l)) : ∃ s t, x = .lst s ∧ y = .lst t ∧ s.length + t.length ≤ big ∧ l = s ++ t := by
  have h : addP x y = some (.lst l) := h
  cases x <;> cases y <;> first | (cases h; done) | skip
  case str.str s t => rw [addP] at h; split at h <;> cases h
  case tup.tup s t => rw [addP] at h; split at h <;> cases h
  case lst.lst =>
    rw [addP] at h
    split at h
    · cases h
      exact ⟨_, _, rfl, rfl, by assumption, rfl⟩
    · cases h
theorem f_add (hK : G.K = X.K) (ha : PE X a (TE_ G T cf W ea)) (hb : PE X b (TE_ G T cf W eb)) : PE X (.BinOp a .Add b pos) (TF_ G T cf W (.pr (.op .add) [ea, eb])) := by
  refine (pe_op op_cat ha hb).imp fun σ H Q ⟨av, as, ρ, st, R, E, q⟩ => ?_
  rw [evE, evEs2, bind_assoc] at q
  refine te_step R E q fun d1 st1 as1 H1 v1 l1 R1 E1 rd1 q1 => ?_
  rw [bind_assoc] at q1
  refine te_step R1 E1 q1 fun d2 st2 as2 H2 v2 l2 R2 E2 rd2 q2 => ?_
  obtain ⟨ps, z, hv, hp, q3⟩ := doPr_inv rfl q2
  have hb := views_rb R2 (ds := [d1, d2]) (vs := [v1, v2]) ⟨v1, _, rfl, rd1.mono l2, v2, _, rfl, rd2, rfl⟩ hv
  obtain ⟨x, y, rfl, hp⟩ := bin_inv (show bin (op2 .add) ps = some z from hp)
  obtain ⟨u1, u2, e, h1, h2⟩ := rbs2 hb
  cases e
  obtain ⟨l, e, q4⟩ := q3.now R2
  cases e
  obtain ⟨s, t, rfl, rfl, hl, rfl⟩ := add_inv hp
  obtain ⟨p1, vs, rfl, g1, g2⟩ := h1
  obtain ⟨p2, ws, rfl, g3, g4⟩ := h2
  exact ⟨p1, p2, vs, ws, rfl, rfl, g1, g3, by rw [← g2.len, ← g4.len]; exact fits hl, fun p hp => q4 p _ hp (g2.app g4)⟩

/-! ### {k: v} -/
theorem s_dic1 (ha : PE X a (TE_ G T cf W ea)) (hb : PE X b (TE_ G T cf W eb)) : PE X (.Dict [some a] [b] pos) (TE_ G T cf W (.d1 ea eb)) := by
  refine (pe_disp (pps_cons ha hb pps_nil) rfl rfl (fun e => by cases e) (Nat.succ_le_succ (Nat.zero_le _))).imp fun σ H Q ⟨av, as, ρ, st, R, E, q⟩ => ?_
  intro D hD
  have nav : ¬ av D := fun z => R.tk D z hD
  have ndas := R.ndD hD
  rw [evE] at q
  have R0 : RSt G (avD av D) as (upd H D (.dK [])) st := R.add hD
  have E0 := E.mv (mo_add (o := .dK []) hD)
  -- back
  have bk : ∀ {as4 : List (Option Addr)} {H4 : Hp} {st4 : So}, Le as (upd H D (.dK [])) as4 H4 → RSt G (avD av D) as4 H4 st4 → H4 D = some (.dK []) ∧ Le as H as4 (del H4 D) ∧ RSt G av as4 (del H4 D) st4 := by
    intro as4 H4 st4 l4 R4
    have hD4 : H4 D = some (.dK []) := l4.kp D _ upd_same ndas
    refine ⟨hD4, ⟨l4.len, l4.old, fun j a hj e => ?_, fun a o h n => ?_, fun a h => ?_⟩, R4.sub nav⟩
    · have := l4.nw j a hj e
      cases e2 : H a with
      | none => rfl
      | some o => rw [grow_new hD a o e2] at this; cases this
    · have hne : a ≠ D := fun q => by rw [q, hD] at h; cases h
      rw [del_ne hne]
      exact l4.kp a o (grow_new hD a o h) n
    · have hne : a ≠ D := fun q => h (by rw [q]; exact hD)
      rw [del_ne hne]
      refine l4.tr a fun q => ?_
      rw [upd_ne hne] at q
      exact h q
  show TE_ G T cf W ea σ (upd H D (.dK [])) _
  refine ⟨avD av D, as, ρ, st, R0, E0, ?_⟩
  cases e1 : evE T cf ea ρ st with
  | bad => rw [e1] at q; exact q.elim
  | ex c ns vs st1 => rw [e1] at q; exact q.elim
  | ok d1 st1 =>
    rw [e1] at q
    intro as1 H1 l1 R1 v1 rd1
    refine ⟨avD av D, as1, ρ, st1, R1, E0.mono l1, ?_⟩
    replace q : Pst G av W σ (fun d _ as' H' => ∀ v, RD G av as' H' d v → Q v H') as H ((evE T cf eb ρ st1).noex.bind fun e st2 => d1F d1 e st2) := q
    cases e2 : evE T cf eb ρ st1 with
    | bad => rw [e2] at q; exact q.elim
    | ex c ns vs st1 => rw [e2] at q; exact q.elim
    | ok d2 st2 =>
      rw [e2] at q
      replace q : Pst G av W σ (fun d _ as' H' => ∀ v, RD G av as' H' d v → Q v H') as H (d1F d1 d2 st2) := q
      intro as2 H2 l2 R2 v2 rd2
      obtain ⟨hD2, le2, R2'⟩ := bk (l1.trans l2) R2
      replace rd1 := rd1.mono l2
      unfold d1F at q
      cases d1 with
      | r _ => exact q.elim
      | p x =>
        cases d2 with
        | r _ => cases x <;> exact q.elim
        | p y =>
          cases x with
          | str s =>
            obtain rfl : v1 = .str s := rd1
            refine ⟨hD2, [(.inr s, v2)], rfl, Nat.succ_le_succ (Nat.zero_le _), ?_⟩
            have he : upd H2 D (.dK (mergeK [] [(.inr s, v2)])) = upd (del H2 D) D (.dK [(.inr s, v2)]) := by
              funext a
              by_cases e : a = D
              · rw [e, upd_same, upd_same]; rfl
              · rw [upd_ne e, upd_ne e, del_ne e]
            rw [he]
            refine q as2 _ (le2.trans (Le.grow (grow_new del_self))) (R2'.grow (grow_new del_self)) (.ref D) ?_
            refine ⟨D, [(.inr s, v2)], rfl, upd_same, R2'.tkA.fresh del_self, rfl, v2, [], rfl, ?_, rfl⟩
            exact RP.mono (Gw.mo (grow_new del_self)) _ _ (RP.mono mo_del _ _ rd2)
          | _ => exact q.elim

/-! ### a new list to a name, on one line -/
theorem p_asF {i : Nat} {s : Stmt} {te : TE} {e : Ex} (h : PS X s (tAsg te (gName i))) (imp : ∀ σ H Q, TE_ G T cf W e σ H Q → te σ H Q) : PS X s (TS_ G T cf W (.as i e)) :=
  h.imp fun E σ H ⟨av, as, ρ, st, R, N, q⟩ => by
    rw [evS] at q
    exact imp σ H _ (se_step R N q fun d st1 as1 H1 v l R1 N1 rd q1 => as_fin R1 N1 rd q1)
end
end Dp
set_option Elab.async false
set_option linter.all false
set_option maxRecDepth 100000
set_option maxHeartbeats 200000
/-! Dp, part 12: calls: the callee has a store of its own. -/
namespace Dp
open PySem L2

section
variable {α : Type}
theorem putAll_len : ∀ (l : List α) (rs : List Nat) (xs : List α), (putAll l rs xs).length = l.length
  | l, [], _ => by rw [putAll]
  | l, _ :: _, [] => rfl
  | l, c :: r, x :: xs => by rw [putAll, putAll_len, List.length_set]
theorem putAll_out : ∀ (l : List α) (rs : List Nat) (xs : List α) {i : Nat}, i ∉ rs → (putAll l rs xs)[i]? = l[i]?
  | l, [], _, i, _ => by rw [putAll]
  | l, _ :: _, [], i, _ => rfl
  | l, c :: r, x :: xs, i, h => by
    rw [putAll, putAll_out _ _ _ fun z => h (List.mem_cons_of_mem _ z), List.getElem?_set_ne fun z => h (by rw [z]; exact List.mem_cons_self)]
theorem putAll_in : ∀ (l : List α) (rs : List Nat) (xs : List α) {j c : Nat}, rs.Nodup → rs[j]? = some c → rs.length ≤ xs.length → c < l.length → (putAll l rs xs)[c]? = xs[j]?
  | l, [], _, j, c, _, h, _, _ => by simp at h
  | l, _ :: _, [], j, c, _, _, h, _ => by simp at h
  | l, d :: r, x :: xs, 0, c, nd, h, hl, hc => by
    simp at h
    subst h
    rw [putAll, putAll_out _ _ _ (List.nodup_cons.mp nd).1, List.getElem?_set_self hc]
    rfl
  | l, d :: r, x :: xs, j + 1, c, nd, h, hl, hc => by
    rw [List.getElem?_cons_succ] at h
    rw [putAll, putAll_in (j := j) _ _ _ (List.nodup_cons.mp nd).2 h (by simpa using hl) (by rw [List.length_set]; exact hc)]
    rfl
end

/-- a callee's promise: the evaluator says so -/
def spD (G : Gx) (cf : Cf) (f : Nat) : L2.Sp := fun vs H Q E => ∃ av as ds st, RSt G av as H st ∧ RDs G av as H ds vs ∧
  Pst G av (fun cls d _ H' => E cls d H') [] (fun d _ as' H' => ∀ v, RD G av as' H' d v → Q v H') as H (cf f ds st)

section
variable {G : Gx} {T : Tab} {cf : Cf} {W : WX} {av : Addr → Prop} {σ : L2.St} {as as' : List (Option Addr)} {H H' : Hp} {st lo : So} {ρ : En}

theorem refs_in : ∀ {ds : List D} {vs : List V}, RDs G av as H ds vs → ∀ c ∈ refs ds, c < as.length
  | [], _, _, c, h => by cases h
  | .p x :: r, vs, h, c, hc => by
    obtain ⟨v, w, rfl, _, h2⟩ := h
    exact refs_in h2 c hc
  | .r d :: r, vs, h, c, hc => by
    obtain ⟨v, w, rfl, h1, h2⟩ := h
    rcases List.mem_cons.mp (show c ∈ d :: refs r from hc) with rfl | hc
    · exact h1.1
    · exact refs_in h2 c hc
theorem getAll_get : ∀ {rs : List Nat} {lo : So}, getAll st rs = some lo → lo.length = rs.length ∧ ∀ (j c : Nat), rs[j]? = some c → ∃ x, st[c]? = some x ∧ x ≠ .dead ∧ lo[j]? = some x
  | [], lo, h => by
    cases h
    exact ⟨rfl, fun j c e => by simp at e⟩
  | d :: r, lo, h => by
    have h : (match st[d]?, getAll st r with
      | some .dead, _ => none
      | some x, some xs => some (x :: xs)
      | _, _ => none) = some lo := h
    cases e1 : st[d]? with
    | none => rw [e1] at h; cases h
    | some x =>
      cases e2 : getAll st r with
      | none => rw [e1, e2] at h; cases x <;> cases h
      | some xs =>
        rw [e1, e2] at h
        obtain ⟨i1, i2⟩ := getAll_get e2
        have fin : ∀ (hx : x ≠ .dead), lo = x :: xs → lo.length = (d :: r).length ∧ ∀ (j c : Nat), (d :: r)[j]? = some c → ∃ x, st[c]? = some x ∧ x ≠ .dead ∧ lo[j]? = some x := by
          intro hx e
          subst e
          refine ⟨by rw [List.length_cons, List.length_cons, i1], fun j c e => ?_⟩
          cases j with
          | zero =>
            rw [List.getElem?_cons_zero] at e
            cases e
            exact ⟨x, e1, hx, rfl⟩
          | succ j =>
            rw [List.getElem?_cons_succ] at e
            exact i2 j c e
        cases x with
        | dead => cases h
        | lst l => cases h; exact fin (by intro q; cases q) rfl
        | ins c ns l => cases h; exact fin (by intro q; cases q) rfl

/-- the callee's addresses -/
def subA (as : List (Option Addr)) (rs : List Nat) : List (Option Addr) := rs.map fun c => (as[c]?).join
/-- what the callee keeps away from -/
def subV (av : Addr → Prop) (as : List (Option Addr)) (rs : List Nat) : Addr → Prop := fun a => Av av as a ∧ some a ∉ subA as rs
theorem subA_get {rs : List Nat} {j c : Nat} (h : rs[j]? = some c) : (subA as rs)[j]? = some (as[c]?).join := by
  unfold subA
  rw [List.getElem?_map, h]
  rfl
theorem join_some {o : Option (Option Addr)} {a : Addr} (h : o.join = some a) : o = some (some a) := by
  cases o with
  | none => cases h
  | some o => cases o with
    | none => cases h
    | some b => cases h; rfl
theorem subA_mem {rs : List Nat} {a : Addr} (h : some a ∈ subA as rs) : ∃ j c : Nat, rs[j]? = some c ∧ as[c]? = some (some a) := by
  obtain ⟨j, hj⟩ := mem_ix h
  have hl := ix_lt hj
  unfold subA at hl
  rw [List.length_map] at hl
  have e := List.getElem?_eq_getElem hl
  rw [subA_get e] at hj
  exact ⟨j, _, e, join_some (Option.some.inj hj)⟩
theorem subV_av {rs : List Nat} (R : RSt G av as H st) {a : Addr} (h : av a) : subV av as rs a := ⟨.inl h, fun z => by
  obtain ⟨j, c, _, e⟩ := subA_mem z
  exact R.dj c a e h⟩
theorem subV_out {rs : List Nat} (R : RSt G av as H st) {i : Nat} {a : Addr} (h : as[i]? = some (some a)) (hn : i ∉ rs) : subV av as rs a := ⟨.inr (ix_mem h), fun z => by
  obtain ⟨j, c, e1, e2⟩ := subA_mem z
  exact hn (by rw [R.nd i c a h e2]; exact ix_mem e1)⟩
theorem sub_mo {rs : List Nat} : Mo (Av av as) (Av (subV av as rs) (subA as rs)) H H := ⟨fun _ _ h _ => h, fun a z => by
  rcases z with z | z
  · exact .inl z.1
  · obtain ⟨j, c, _, e⟩ := subA_mem z
    exact .inl (.inr (ix_mem e))⟩
theorem sub_rst {rs : List Nat} (R : RSt G av as H st) (nd : rs.Nodup) (g : getAll st rs = some lo) : RSt G (subV av as rs) (subA as rs) H lo := by
  obtain ⟨g1, g2⟩ := getAll_get g
  have at_ : ∀ (i : Nat) a, (subA as rs)[i]? = some (some a) → ∃ c, rs[i]? = some c ∧ as[c]? = some (some a) := fun i a e => by
    have hl := ix_lt e
    unfold subA at hl
    rw [List.length_map] at hl
    have e' := List.getElem?_eq_getElem hl
    rw [subA_get e'] at e
    exact ⟨_, e', join_some (Option.some.inj e)⟩
  refine ⟨by unfold subA; rw [List.length_map, g1], fun i x e hn => ?_, fun i a e => ?_, fun i j a e1 e2 => ?_, fun i a e z => z.2 (ix_mem e), fun a z => R.tkA a z.1⟩
  · have hl := ix_lt e
    rw [g1] at hl
    have e' := List.getElem?_eq_getElem hl
    obtain ⟨y, y1, y2, y3⟩ := g2 i _ e'
    obtain ⟨a, ha⟩ := R.al _ y y1 y2
    exact ⟨a, by rw [subA_get e', ha]; rfl⟩
  · obtain ⟨c, e1, e2⟩ := at_ i a e
    obtain ⟨y, y1, y2, y3⟩ := g2 i c e1
    obtain ⟨z, z1, z2⟩ := R.ok c a e2
    rw [y1] at z1
    cases z1
    exact ⟨y, y3, z2.mono sub_mo rfl⟩
  · obtain ⟨c, c1, c2⟩ := at_ i a e1
    obtain ⟨d, d1, d2⟩ := at_ j a e2
    have := R.nd c d a c2 d2
    subst this
    exact (List.getElem?_inj (ix_lt c1) nd).mp (c1.trans d1.symm)
theorem sub_rds (rs : List Nat) : ∀ {ds : List D} {vs : List V} (n : Nat), RDs G av as H ds vs → (∀ (j c : Nat), (refs ds)[j]? = some c → rs[n + j]? = some c) → RDs G (subV av as rs) (subA as rs) H (renum n ds) vs
  | [], _, _, h, _ => h
  | .p x :: r, vs, n, h, hr => by
    obtain ⟨v, w, rfl, h1, h2⟩ := h
    exact ⟨v, w, rfl, RP.mono sub_mo x v h1, sub_rds rs n h2 hr⟩
  | .r d :: r, vs, n, h, hr => by
    obtain ⟨v, w, rfl, h1, h2⟩ := h
    have e0 : rs[n]? = some d := hr 0 d rfl
    refine ⟨v, w, rfl, ⟨by unfold subA; rw [List.length_map]; exact ix_lt e0, fun a e => ?_⟩, sub_rds rs (n + 1) h2 fun j c e => ?_⟩
    · rw [subA_get e0] at e
      exact h1.2 a (join_some (Option.some.inj e))
    · have := hr (j + 1) c e
      rw [show n + 1 + j = n + (j + 1) by omega]
      exact this

/-- back in the caller -/
structure Back (G : Gx) (av : Addr → Prop) (as : List (Option Addr)) (H : Hp) (st : So) (rs : List Nat) (as1 : List (Option Addr)) (H1 : Hp) (st1 : So) : Prop where
  le : Le as H (putAll as rs as1) H1
  r : RSt G av (putAll as rs as1) H1 (putAll st rs st1)
  mo : Mo (Av (subV av as rs) as1) (Av av (putAll as rs as1)) H1 H1
theorem back_ok {rs : List Nat} {as1 : List (Option Addr)} {H1 : Hp} {st1 : So} (R : RSt G av as H st) (nd : rs.Nodup) (g : getAll st rs = some lo) (l1 : Le (subA as rs) H as1 H1) (R1 : RSt G (subV av as rs) as1 H1 st1) : Back G av as H st rs as1 H1 st1 := by
  obtain ⟨g1, g2⟩ := getAll_get g
  have hlen : rs.length ≤ as1.length := by
    have := l1.len
    unfold subA at this
    rwa [List.length_map] at this
  have hlen1 : rs.length ≤ st1.length := by rw [← R1.len]; exact hlen
  have lt : ∀ (j c : Nat), rs[j]? = some c → c < st.length := fun j c e => by
    obtain ⟨x, h, _⟩ := g2 j c e
    exact ix_lt h
  have inA : ∀ (j c : Nat), rs[j]? = some c → (putAll as rs as1)[c]? = as1[j]? := fun j c e => putAll_in as rs as1 nd e hlen (by rw [R.len]; exact lt j c e)
  have inS : ∀ (j c : Nat), rs[j]? = some c → (putAll st rs st1)[c]? = st1[j]? := fun j c e => putAll_in st rs st1 nd e hlen1 (lt j c e)
  have outA : ∀ i : Nat, i ∉ rs → (putAll as rs as1)[i]? = as[i]? := fun i h => putAll_out as rs as1 h
  have outS : ∀ i : Nat, i ∉ rs → (putAll st rs st1)[i]? = st[i]? := fun i h => putAll_out st rs st1 h
  have le : Le as H (putAll as rs as1) H1 := by
    refine ⟨Nat.le_of_eq (putAll_len _ _ _).symm, fun i a hi e => ?_, fun i a hi e => ?_, fun a o h n => l1.kp a o h fun z => ?_, l1.tr⟩
    · by_cases hr : i ∈ rs
      · obtain ⟨j, hj⟩ := mem_ix hr
        rw [inA j i hj] at e
        have e2 := l1.old j a (by unfold subA; rw [List.length_map]; exact ix_lt hj) e
        rw [subA_get hj] at e2
        exact join_some (Option.some.inj e2)
      · rwa [outA i hr] at e
    · have := ix_lt e
      rw [putAll_len] at this
      omega
    · obtain ⟨j, c, _, e⟩ := subA_mem z
      exact n (ix_mem e)
  have mo : Mo (Av (subV av as rs) as1) (Av av (putAll as rs as1)) H1 H1 := by
    refine ⟨fun _ _ h _ => h, fun a z => .inl ?_⟩
    rcases z with z | z
    · exact .inl (subV_av R z)
    · obtain ⟨i, hi⟩ := mem_ix z
      by_cases hr : i ∈ rs
      · obtain ⟨j, hj⟩ := mem_ix hr
        rw [inA j i hj] at hi
        exact .inr (ix_mem hi)
      · rw [outA i hr] at hi
        exact .inl (subV_out R hi hr)
  refine ⟨le, ⟨by rw [putAll_len, putAll_len]; exact R.len, fun i x e hn => ?_, fun i a e => ?_, fun i j a e1 e2 => ?_, fun i a e z => ?_, fun a z => l1.tr a (R.tk a z)⟩, mo⟩
  · by_cases hr : i ∈ rs
    · obtain ⟨j, hj⟩ := mem_ix hr
      rw [inS j i hj] at e
      obtain ⟨a, ha⟩ := R1.al j x e hn
      exact ⟨a, by rw [inA j i hj]; exact ha⟩
    · rw [outS i hr] at e
      obtain ⟨a, ha⟩ := R.al i x e hn
      exact ⟨a, by rw [outA i hr]; exact ha⟩
  · by_cases hr : i ∈ rs
    · obtain ⟨j, hj⟩ := mem_ix hr
      rw [inA j i hj] at e
      obtain ⟨x, hx, ok⟩ := R1.ok j a e
      exact ⟨x, by rw [inS j i hj]; exact hx, ok.mono mo rfl⟩
    · rw [outA i hr] at e
      obtain ⟨x, hx, ok⟩ := R.ok i a e
      have hd := subV_out R e hr
      refine ⟨x, by rw [outS i hr]; exact hx, ok.mono le.mo ?_⟩
      cases eh : H a with
      | none => exact absurd eh (R.tkA a (.inr (ix_mem e)))
      | some o => exact l1.kp a o eh hd.2
  · by_cases h1 : i ∈ rs <;> by_cases h2 : j ∈ rs
    · obtain ⟨k, hk⟩ := mem_ix h1
      obtain ⟨m, hm⟩ := mem_ix h2
      rw [inA k i hk] at e1
      rw [inA m j hm] at e2
      have := R1.nd k m a e1 e2
      subst this
      rw [hk] at hm
      cases hm
      rfl
    · obtain ⟨k, hk⟩ := mem_ix h1
      rw [inA k i hk] at e1
      rw [outA j h2] at e2
      exact absurd (subV_out R e2 h2) (R1.dj k a e1)
    · obtain ⟨m, hm⟩ := mem_ix h2
      rw [inA m j hm] at e2
      rw [outA i h1] at e1
      exact absurd (subV_out R e1 h1) (R1.dj m a e2)
    · rw [outA i h1] at e1
      rw [outA j h2] at e2
      exact R.nd i j a e1 e2
  · by_cases hr : i ∈ rs
    · obtain ⟨j, hj⟩ := mem_ix hr
      rw [inA j i hj] at e
      exact R1.dj j a e (subV_av R z)
    · rw [outA i hr] at e
      exact R.dj i a e z
end
end Dp
set_option Elab.async false
set_option linter.all false
set_option maxRecDepth 100000
set_option maxHeartbeats 200000
/-! Dp, part 13: a call keeps the evaluator's word. -/
namespace Dp
open PySem L2

section
variable {G : Gx} {T : Tab} {cf : Cf} {W : WX} {av : Addr → Prop} {σ : L2.St} {as as' : List (Option Addr)} {H H' : Hp} {st lo : So} {ρ : En}

/-- one more cell, the callee's -/
theorem Back.more {rs : List Nat} {as1 : List (Option Addr)} {H1 : Hp} {st1 : So} {j : Nat} {x : Cl} (R : RSt G av as H st) (nd : rs.Nodup) (g : getAll st rs = some lo) (l1 : Le (subA as rs) H as1 H1) (R1 : RSt G (subV av as rs) as1 H1 st1)
    (hj : rs[j]? = none) (hx : st1[j]? = some x) (hn : x ≠ .dead) : ∃ a, as1[j]? = some (some a) ∧ Le as H (putAll as rs as1 ++ [some a]) H1 ∧ RSt G av (putAll as rs as1 ++ [some a]) H1 (putAll st rs st1 ++ [x]) := by
  have B := back_ok R nd g l1 R1
  obtain ⟨a, ha⟩ := R1.al j x hx hn
  have hlen : rs.length ≤ as1.length := by
    have := l1.len
    unfold subA at this
    rwa [List.length_map] at this
  have hjr : rs.length ≤ j := by
    rcases Nat.lt_or_ge j rs.length with z | z
    · rw [List.getElem?_eq_getElem z] at hj; cases hj
    · exact z
  obtain ⟨g1, g2⟩ := getAll_get g
  -- a is none of the others
  have ne : ∀ (i : Nat) b, (putAll as rs as1)[i]? = some (some b) → b ≠ a := fun i b e z => by
    subst z
    by_cases hr : i ∈ rs
    · obtain ⟨k, hk⟩ := mem_ix hr
      obtain ⟨y, hy, _⟩ := g2 k i hk
      rw [putAll_in as rs as1 nd hk hlen (by rw [R.len]; exact ix_lt hy)] at e
      have := R1.nd j k b ha e
      have := ix_lt hk
      omega
    · rw [putAll_out as rs as1 hr] at e
      exact R1.dj j b ha (subV_out R e hr)
  have nav : ¬ av a := fun z => R1.dj j a ha (subV_av R z)
  have hnone : H a = none := l1.nw j a (by unfold subA; rw [List.length_map]; exact hjr) ha
  have old : ∀ (i : Nat) b, (putAll as rs as1 ++ [some a])[i]? = some (some b) → ((putAll as rs as1)[i]? = some (some b)) ∨ (i = as.length ∧ b = a) := fun i b e => by
    by_cases hi : i < (putAll as rs as1).length
    · rw [List.getElem?_append_left hi] at e
      exact .inl e
    · rw [List.getElem?_append_right (Nat.le_of_not_lt hi)] at e
      have h0 : i - (putAll as rs as1).length = 0 := by
        have := ix_lt e
        rw [List.length_singleton] at this
        omega
      rw [h0] at e
      cases e
      rw [putAll_len] at h0 hi
      exact .inr ⟨by omega, rfl⟩
  have m : Mo (Av (subV av as rs) as1) (Av av (putAll as rs as1 ++ [some a])) H1 H1 := ⟨fun _ _ h _ => h, fun b z => by
    rcases z with z | z
    · exact B.mo.less b (.inl z)
    · rcases List.mem_append.mp z with z | z
      · exact B.mo.less b (.inr z)
      · cases List.mem_singleton.mp z
        exact .inl (.inr (ix_mem ha))⟩
  refine ⟨a, ha, ⟨by rw [List.length_append]; exact Nat.le_trans B.le.len (Nat.le_add_right _ _), fun i b hi e => ?_, fun i b hi e => ?_, B.le.kp, B.le.tr⟩,
    ⟨by rw [List.length_append, List.length_append, B.r.len]; rfl, fun i y e hy => ?_, fun i b e => ?_, fun i k b e1 e2 => ?_, fun i b e => ?_, B.r.tk⟩⟩
  · rcases old i b e with e | ⟨rfl, _⟩
    · exact B.le.old i b hi e
    · exact absurd hi (Nat.lt_irrefl _)
  · rcases old i b e with e | ⟨_, rfl⟩
    · exact B.le.nw i b hi e
    · exact hnone
  · by_cases hi : i < (putAll st rs st1).length
    · rw [List.getElem?_append_left hi] at e
      obtain ⟨b, hb⟩ := B.r.al i y e hy
      exact ⟨b, by rw [List.getElem?_append_left (ix_lt hb)]; exact hb⟩
    · have := ix_lt e
      rw [List.length_append, List.length_singleton] at this
      have hl := B.r.len
      refine ⟨a, ?_⟩
      rw [List.getElem?_append_right (by omega), show i - (putAll as rs as1).length = 0 by omega]
      rfl
  · rcases old i b e with e | ⟨rfl, rfl⟩
    · obtain ⟨y, e1, e2⟩ := B.r.ok i b e
      refine ⟨y, by rw [List.getElem?_append_left (ix_lt e1)]; exact e1, ?_⟩
      by_cases hr : i ∈ rs
      · obtain ⟨k, hk⟩ := mem_ix hr
        obtain ⟨z, hz, _⟩ := g2 k i hk
        rw [putAll_in as rs as1 nd hk hlen (by rw [R.len]; exact ix_lt hz)] at e
        rw [putAll_in st rs st1 nd hk (by rw [← R1.len]; exact hlen) (ix_lt hz)] at e1
        obtain ⟨y', h1, h2⟩ := R1.ok k b e
        rw [e1] at h1
        cases h1
        exact h2.mono m rfl
      · have e' := e
        rw [putAll_out as rs as1 hr] at e
        rw [putAll_out st rs st1 hr] at e1
        obtain ⟨y', h1, h2⟩ := R.ok i b e
        rw [e1] at h1
        cases h1
        have hd := subV_out R e hr
        refine h2.mono ⟨fun c o hc n => B.le.mo.keep c o hc n, fun c z => ?_⟩ ?_
        · rcases z with z | z
          · exact .inl (.inl z)
          · rcases List.mem_append.mp z with z | z
            · exact B.le.mo.less c (.inr z)
            · cases List.mem_singleton.mp z
              exact .inr hnone
        · cases eh : H b with
          | none => exact absurd eh (R.tkA b (.inr (ix_mem e)))
          | some o => exact l1.kp b o eh hd.2
    · refine ⟨x, ?_, ?_⟩
      · rw [List.getElem?_append_right (by rw [putAll_len, R.len]; exact Nat.le_refl _), putAll_len, R.len, Nat.sub_self]
        rfl
      · obtain ⟨y, h1, h2⟩ := R1.ok j b ha
        rw [hx] at h1
        cases h1
        exact h2.mono m rfl
  · rcases old i b e1 with q1 | ⟨q1, q1'⟩ <;> rcases old k b e2 with q2 | ⟨q2, q2'⟩
    · exact B.r.nd i k b q1 q2
    · exact absurd q2' (ne i b q1)
    · exact absurd q1' (ne k b q2)
    · rw [q1, q2]
  · rcases old i b e with e | ⟨_, rfl⟩
    · exact B.r.dj i b e
    · exact nav

theorem call_sp {f : Nat} {ds : List D} {vs : List V} {Q : VK} (R : RSt G av as H st) (rd : RDs G av as H ds vs) (q : Pst G av W σ (fun d _ as' H' => ∀ v, RD G av as' H' d v → Q v H') as H (callD cf f ds st)) :
    spD G cf f vs H Q fun cls d H' => W cls d σ H' := by
  unfold callD at q
  dsimp only at q
  by_cases nd : (refs ds).Nodup
  · rw [if_pos nd] at q
    cases g : getAll st (refs ds) with
    | none => rw [g] at q; exact q.elim
    | some lo =>
      rw [g] at q
      dsimp only at q
      have R0 := sub_rst R nd g
      refine ⟨subV av as (refs ds), subA as (refs ds), renum 0 ds, lo, R0, sub_rds (refs ds) 0 rd (fun j c e => by rw [Nat.zero_add]; exact e), ?_⟩
      cases e : cf f (renum 0 ds) lo with
      | bad => rw [e] at q; exact q.elim
      | ex c ns ps st1 =>
        rw [e] at q
        intro as1 H1 dx ws l1 R1 h1 h2 h3
        have B := back_ok R nd g l1 R1
        exact q _ H1 dx ws B.le B.r h1 h2 (RPs.mono B.mo _ _ h3)
      | ok d st1 =>
        rw [e] at q
        intro as1 H1 l1 R1 v rv
        have B := back_ok R nd g l1 R1
        cases d with
        | p x => exact q _ H1 B.le B.r v (RP.mono B.mo x v rv)
        | r j =>
          unfold back at q
          dsimp only at q
          obtain ⟨g1, g2⟩ := getAll_get g
          have hlen : (refs ds).length ≤ as1.length := by
            have := l1.len
            unfold subA at this
            rwa [List.length_map] at this
          cases hj : (refs ds)[j]? with
          | some c =>
            rw [hj] at q
            obtain ⟨y, hy, _⟩ := g2 j c hj
            have hc : c < as.length := by rw [R.len]; exact ix_lt hy
            exact q _ H1 B.le B.r v ⟨by rw [putAll_len]; exact hc, fun a ea => rv.2 a (by rw [← putAll_in as (refs ds) as1 nd hj hlen hc]; exact ea)⟩
          | none =>
            rw [hj] at q
            dsimp only at q
            cases hx : st1[j]? with
            | none => rw [hx] at q; exact q.elim
            | some x =>
              rw [hx] at q
              have go : ∀ (hn : x ≠ .dead), Pst G av W σ (fun d _ as' H' => ∀ v, RD G av as' H' d v → Q v H') as H (.ok (.r st.length) (putAll st (refs ds) st1 ++ [x])) → Q v H1 := by
                intro hn q
                obtain ⟨a, ha, le2, R2⟩ := Back.more R nd g l1 R1 hj hx hn
                refine q _ H1 le2 R2 v ⟨by rw [List.length_append, putAll_len, R.len]; exact Nat.lt_succ_self _, fun b eb => ?_⟩
                rw [List.getElem?_append_right (by rw [putAll_len, R.len]; exact Nat.le_refl _), putAll_len, R.len, Nat.sub_self] at eb
                cases eb
                exact rv.2 a ha
              cases x with
              | dead => exact q.elim
              | lst l => exact go (by intro z; cases z) q
              | ins c ns l => exact go (by intro z; cases z) q
  · rw [if_neg nd] at q
    exact q.elim
end
end Dp
set_option Elab.async false
set_option linter.all false
set_option maxRecDepth 100000
set_option maxHeartbeats 200000
/-! Dp, part 14: what a def promises, with nothing shown half; its rule; the call. -/
namespace Dp
open PySem PySem.Spec PyProof.Rows L2

/-- a def's promise, where no repr is under way -/
structure FnG (P : Program) (w : World) (K : PySem.W.Frag) (mg : Str → Option Value) (base : Heap) (k : Nat) (f : Addr) (fd : FuncData) (ps : List Str) (sp : L2.Sp) : Prop where
  cnt : ∀ xs H Q Z, sp xs H Q Z → xs.length = ps.length
  go : ∀ (A : Around) (fr : List Env) (z : Shared) (H : Hp) (ar : Args) (us : List Value) (xs : List V) (Q : VK) (Z : XK), Room k A → A.guards = some [] → Env0 P w K mg base A fr z H →
    BindsTo z fd ar (ps.zip us) → Vals xs us → sp xs H Q Z → codeAny (model P w) A (.call (.ref f) ar) (CR (L2.CX P w) fr P w H z Q Z) z

section
variable {P : Program} {w : World} {K : PySem.W.Frag} {mg : Str → Option Value} {base : Heap}
theorem FnG.lift {j k : Nat} {f : Addr} {fd : FuncData} {ps : List Str} {sp : L2.Sp} (g : FnG P w K mg base j f fd ps sp) (h : j ≤ k) : FnG P w K mg base k f fd ps sp :=
  ⟨g.cnt, fun A fr z H ar us xs Q Z r => g.go A fr z H ar us xs Q Z (r.mono h)⟩
/-- the context of a def's body -/
abbrev bodyX (P : Program) (w : World) (K : PySem.W.Frag) (mg : Str → Option Value) (base : Heap) (N : List Str) (q : Str) (sc : Scope) (f : Addr) (cd : Value) (A : Around) (fr : List Env) (z : Shared) (H : Hp) (Z : XK) : Cx :=
  cxOf (L2.CX P w) P w K mg base N q sc f cd A fr z H Z
/-- THE RULE of a def, with that promise -/
theorem FnG.def_ {k : Nat} {x q : Str} {params : Arguments} {body : List Stmt} {sc : Scope} {dvs : List V} {kws : List (Str × V)} {f : Addr} {fd : FuncData} {N ps : List Str} {sp : L2.Sp} (F : FunD K x q params body sc dvs kws f fd) (S : FnScope N ps sc)
    (cnt : ∀ xs H Q Z, sp xs H Q Z → xs.length = ps.length)
    (hb : ∀ (cd : Value) (A : Around) (fr : List Env) (z : Shared) (H : Hp) (xs : List V) (Q : VK) (Z : XK), Room k (A.deeper (envOfC q sc z.heap.objs.size f cd)) → A.guards = some [] → sp xs H Q Z →
      ∃ t, PSs (bodyX P w K mg base N q sc f cd A fr z H Z) body t ∧ t ⟨fun _ G => Q .non G, Q, fun _ _ => False, fun _ _ => False⟩ (L2.start N xs) H) : FnG P w K mg base (k + 1) f fd ps sp := by
  obtain ⟨c1, c2, c3, c4, c5, c6, c7, cd, c8, c9, e, look, hcode, -, -⟩ := F.ex
  rw [e] at look ⊢
  refine ⟨cnt, fun A fr z H ar us xs Q Z room quiet en bnd rel want => ?_⟩
  have inn : K.In z.heap := en.mod.kin.keeps fun b o i => (en.bs b o i).1
  have nolim : z.heap.NoLimit := en.mod.nolimit.keeps fun b o i => (en.bs b o i).1
  refine codeAny_call_function room.depth (inn _ _ look) rfl S.co S.gen rfl (PySem.W.codeRec_of inn hcode) (bnd _ _ _ _ ?_)
  refine wpAny_newFunctionEnv_cells S.kind (fun y hy => ?_) fun env henv z1 ic => ?_
  · obtain ⟨yn, yv⟩ := y
    have mem := (List.of_mem_zip hy).1
    exact (S.par yn mem).elim .inl fun c => .inr ⟨c, PySem.W.cellsFrom_some _ _ _ (.inl c)⟩
  · subst henv
    refine ⟨nolim.keeps ic.toInCall.keep, codeAny_func ?_⟩
    obtain ⟨t, walk, begin_⟩ := hb cd A fr z H xs Q Z (room.deeper _) quiet want
    have J0 : Inv (bodyX P w K mg base N q sc f cd A fr z H Z) [] (L2.start N xs) H z1 := inv_start S room.hd en (cnt _ _ _ _ want) rel ic
    have close : ∀ {σ' : L2.St} {H' : Hp} {v : V} {u : Value} {z' : Shared}, Inv (bodyX P w K mg base N q sc f cd A fr z H Z) [] σ' H' z' → RelV v u → Q v H' → CE fr P w H z Q u z' := by
      intro σ' H' v u z' J r g
      exact ⟨v, H', J.os, J.bare, J.base, J.hok, r, g⟩
    refine wpAny_mono (walk.run [] z1 (L2.start N xs) H _ J0 begin_) (fun fl z' out => ?_) fun _ _ out => out
    cases fl with
    | next => exact let ⟨_, _, J, g⟩ := out; close (v := .non) (u := .none) J rfl g
    | ret u => exact let ⟨_, _, _, J, r, g⟩ := out; close J r g
    | brk => exact let ⟨_, _, _, no⟩ := out; no.elim
    | cont => exact let ⟨_, _, _, no⟩ := out; no.elim
end

/-- the values that a call binds: by place among the written ones, or constants -/
def SelV (G : Gx) (us : List Value) : List Sel → List Value → Prop
  | [], bs => bs = []
  | .a i :: r, bs => ∃ u b, bs = u :: b ∧ us[i]? = some u ∧ SelV G us r b
  | .d x :: r, bs => ∃ u b, bs = u :: b ∧ (∃ v, RelV v u ∧ ∀ av H, RP G av H x v) ∧ SelV G us r b
structure BindOk (G : Gx) (fd : FuncData) (ps : List Str) (n : Nat) (ks : List Str) (sel : List Sel) : Prop where
  go : ∀ (z : Shared) (us ws : List Value), G.K.In z.heap → us.length = n → ws.length = ks.length → ∃ bs, BindsTo z fd ⟨us, ks.zip ws⟩ (ps.zip bs) ∧ SelV G (us ++ ws) sel bs
theorem selV_rel {G : Gx} {av : Addr → Prop} {as : List (Option Addr)} {H : Hp} {ds : List D} {vs : List V} {us : List Value} (hv : Vals vs us) (hd : RDs G av as H ds vs) : ∀ {sel : List Sel} {bs : List Value} {ds' : List D}, SelV G us sel bs → sels ds sel = some ds' → ∃ xs, Vals xs bs ∧ RDs G av as H ds' xs
  | [], bs, ds', h, e => by
    cases e
    rw [show bs = [] from h]
    exact ⟨[], .nil, rfl⟩
  | .a i :: r, bs, ds', h, e => by
    obtain ⟨u, b, rfl, hu, h⟩ := h
    have e : (match ds[i]?, sels ds r with
      | some d, some l => some (d :: l)
      | _, _ => none) = some ds' := e
    cases e1 : ds[i]? with
    | none => rw [e1] at e; cases e
    | some d =>
      cases e2 : sels ds r with
      | none => rw [e1, e2] at e; cases e
      | some l =>
        rw [e1, e2] at e
        cases e
        obtain ⟨xs, h1, h2⟩ := selV_rel hv hd h e2
        have get : ∀ {ds : List D} {vs : List V} {i : Nat} {d : D}, RDs G av as H ds vs → ds[i]? = some d → ∃ v, vs[i]? = some v ∧ RD G av as H d v := by
          intro ds
          induction ds with
          | nil => intro vs i d _ e; simp at e
          | cons y ds ih =>
            intro vs i d h e
            obtain ⟨v, w, rfl, h1, h2⟩ := h
            cases i with
            | zero =>
              rw [List.getElem?_cons_zero] at e
              cases e
              exact ⟨v, rfl, h1⟩
            | succ i =>
              rw [List.getElem?_cons_succ] at e
              obtain ⟨v', g1, g2⟩ := ih (vs := w) h2 e
              exact ⟨v', by rw [List.getElem?_cons_succ]; exact g1, g2⟩
        obtain ⟨v, hv1, hv2⟩ := get hd e1
        obtain ⟨u', hu1, hu2⟩ := hv.get hv1
        rw [hu] at hu1
        cases hu1
        exact ⟨v :: xs, .cons hu2 h1, v, xs, rfl, hv2, h2⟩
  | .d x :: r, bs, ds', h, e => by
    obtain ⟨u, b, rfl, ⟨v, hv1, hv2⟩, h⟩ := h
    obtain ⟨l, e2, rfl⟩ := Option.map_eq_some_iff.mp (show (sels ds r).map (D.p x :: ·) = some ds' from e)
    obtain ⟨xs, h1, h2⟩ := selV_rel hv hd h e2
    exact ⟨v :: xs, .cons hv1 h1, v, xs, rfl, hv2 _ _, h2⟩

section
variable {X : Cx} {G : Gx} {T : Tab} {cf : Cf} {W : WX} {av : Addr → Prop} {σ : L2.St} {as : List (Option Addr)} {H : Hp} {st : So} {ρ : En}
variable {a b c : Expr} {ea eb ec : Ex} {pos : Pos}
/-- the callee runs -/
theorem run_g {k : Nat} {f : Addr} {fd : FuncData} {ps : List Str} {sp : L2.Sp} {pins : List (Addr × Obj)} {s : Shared} {Q : VK} {us ws bs : List Value} {ks : List Str} {xs : List V} (F : FnG X.prog X.w X.K X.mg X.base k f fd ps sp) (room : Room k X.A) (quiet : X.A.guards = some []) (tk : Takes X W)
    (J : Inv X pins σ H s) (bnd : BindsTo s fd ⟨us, ks.zip ws⟩ (ps.zip bs)) (rel : Vals xs bs) (want : sp xs H Q (WE W σ)) : wpAny (model X.prog X.w) X.A (call (.ref f) us (ks.zip ws)) (EP X pins σ Q) X.xe s := by
  refine wpAny_call (codeAny_mono (F.go X.A X.stack s H ⟨us, ks.zip ws⟩ bs xs Q (WE W σ) room quiet J.env0 bnd rel want) fun r s' out => ?_)
  match r, out with
  | .ok (.ret u), out => exact J.after out
  | .ok .next, out => exact out.elim
  | .ok .brk, out => exact out.elim
  | .ok .cont, out => exact out.elim
  | .error e, out => exact passAt tk σ pins H s e s' J out

/-! ### keywords -/
theorem k_nil : PK X [] (TA_ G T cf W []) := ⟨fun pos pins s σ H Q I ⟨av, as, ρ, st, R, E, q⟩ => pk_nil.run pos pins s σ H Q I (Pst.now q R [] rfl)⟩
theorem k_cons {kws : List Keyword} {kes : List Ex} {nm : Option Str} {kpos : Pos} (ha : PE X a (TE_ G T cf W ea)) (hs : PK X kws (TA_ G T cf W kes)) : PK X (⟨nm, a, kpos⟩ :: kws) (TA_ G T cf W (ea :: kes)) := by
  refine ⟨fun pos pins s σ H Q I ⟨av, as, ρ, st, R, E, q⟩ => (pk_cons ha hs).run pos pins s σ H Q I ?_⟩
  rw [evEs] at q
  refine te_step R E q fun d1 st1 as1 H1 v1 l1 R1 E1 rd1 q1 => ?_
  refine ta_step R1 E1 q1 fun ds st2 as2 H2 vs l2 R2 E2 rds q2 => ?_
  exact q2.now R2 (v1 :: vs) ⟨v1, vs, rfl, rd1.mono l2, rds⟩
theorem evEs_app : ∀ (es fs : List Ex) (ρ : En) (st : So), evEs T cf (es ++ fs) ρ st = (evEs T cf es ρ st).bind fun xs st1 => (evEs T cf fs ρ st1).bind fun ys st2 => .ok (xs ++ ys) st2
  | [], fs, ρ, st => by
    show evEs T cf fs ρ st = (evEs T cf fs ρ st).bind fun ys st2 => .ok ys st2
    cases evEs T cf fs ρ st <;> rfl
  | e :: es, fs, ρ, st => by
    rw [List.cons_append, evEs, evEs, bind_assoc]
    cases evE T cf e ρ st with
    | bad => rfl
    | ex c ns vs st1 => rfl
    | ok d st1 =>
      show (evEs T cf (es ++ fs) ρ st1).bind _ = ((evEs T cf es ρ st1).bind _).bind _
      rw [evEs_app es fs ρ st1, bind_assoc, bind_assoc]
      cases evEs T cf es ρ st1 with
      | bad => rfl
      | ex c ns vs st2 => rfl
      | ok xs st2 =>
        show ((evEs T cf fs ρ st2).bind _).bind _ = (evEs T cf fs ρ st2).bind _
        cases evEs T cf fs ρ st2 <;> rfl
theorem RDs.app : ∀ {ds es : List D} {vs ws : List V}, RDs G av as H ds vs → RDs G av as H es ws → RDs G av as H (ds ++ es) (vs ++ ws)
  | [], es, vs, ws, h, h' => by
    rw [show vs = [] from h]
    exact h'
  | d :: ds, es, vs, ws, h, h' => by
    obtain ⟨v, w, rfl, h1, h2⟩ := h
    exact ⟨v, w ++ ws, rfl, h1, RDs.app h2 h'⟩
theorem sels_bind {f : List D → Ou D} {o : Option (List D)} {kk : D → So → List (Option Addr) → Hp → Prop} (h : Pst G av W σ kk as H (match o with
    | some as => f as
    | none => .bad)) : ∃ l, o = some l ∧ Pst G av W σ kk as H (f l) := by
  cases o with
  | none => exact h.elim
  | some l => exact ⟨l, rfl, h⟩

/-- f(e, .., k = v, ..), f a def of the text -/
theorem s_fc {k i : Nat} {f : Addr} {fd : FuncData} {ps ks : List Str} {n : Nat} {sel : List Sel} {x : Str} {p : Pos} {es : List Expr} {kws : List Keyword} {ees kes : List Ex} (hK : G.K = X.K) (F : FnG X.prog X.w X.K X.mg X.base k f fd ps (spD G cf i)) (room : Room k X.A) (quiet : X.A.guards = some []) (tk : Takes X W)
    (hg : Gl X x) (hm : X.mg x = some (.ref f)) (kp : PySem.W.keepIn X.K (.ref f) = true) (bo : BindOk G fd ps n ks sel) (he : PA X es (TA_ G T cf W ees)) (hk : PK X kws (TA_ G T cf W kes)) (hn : es.length = n) (hn2 : ees.length = n) (hk2 : kes.length = ks.length)
    (hdb : (x == ("__debug__" : Str)) = false) (hst : match es with | [] => True | e :: r => starEach (e :: r) X.env = (false, eval e X.env) :: starEach r X.env)
    (hall : (backToKw pos (keywordEach kws X.env)).all (·.1.isSome) = true) (hks : (backToKw pos (keywordEach kws X.env)).filterMap (·.1) = ks)
    (hpl : ((backTo pos (starEach es X.env)).any (·.1) || (backToKw pos (keywordEach kws X.env)).any (·.1.isNone)) = false) :
    PE X (.Call (.Name x p) es kws pos) (TE_ G T cf W (.fc i sel (ees ++ kes))) := by
  have evlen : ∀ (l : List Ex) (ρ : En) (st : So) (ds : List D) (st' : So), evEs T cf l ρ st = .ok ds st' → ds.length = l.length := by
    intro l
    induction l with
    | nil => intro ρ st ds st' h; cases h; rfl
    | cons e l ih =>
      intro ρ st ds st' h
      rw [evEs] at h
      cases h1 : evE T cf e ρ st with
      | bad => rw [h1] at h; cases h
      | ex c ns vs st1 => rw [h1] at h; cases h
      | ok d st1 =>
        rw [h1] at h
        have h : ((evEs T cf l ρ st1).bind fun ds st2 => Ou.ok (d :: ds) st2) = .ok ds st' := h
        cases h2 : evEs T cf l ρ st1 with
        | bad => rw [h2] at h; cases h
        | ex c ns vs st1 => rw [h2] at h; cases h
        | ok ds2 st2 =>
          rw [h2] at h
          cases h
          rw [List.length_cons, List.length_cons, ih _ _ _ _ h2]
  refine ⟨fun pins s σ H Q I ⟨av, as, ρ, st, R, E, q⟩ => ?_⟩
  -- behind both lists
  have last : ∀ (us ws : List Value) (s2 : Shared) (H2 : Hp) (vs zs : List V) (ds es' : List D) (st2 : So) (as2 : List (Option Addr)), Inv X pins σ H2 s2 → Vals vs us → Vals zs ws → vs.length = n → zs.length = ks.length → RSt G av as2 H2 st2 → RDs G av as2 H2 ds vs → RDs G av as2 H2 es' zs →
      Pst G av W σ (fun d _ as' H' => ∀ v, RD G av as' H' d v → Q v H') as2 H2 (match sels (ds ++ es') sel with
        | some as => callD cf i as st2
        | none => .bad) → wpAny (model X.prog X.w) X.A (call (.ref f) ([] ++ us) (ks.zip ws)) (EP X pins σ Q) X.xe s2 := by
    intro us ws s2 H2 vs zs ds es' st2 as2 J r1 r2 l1 l2 R2 d1 d2 q2
    obtain ⟨l, hl, q3⟩ := sels_bind q2
    obtain ⟨bs, bnd, sv⟩ := bo.go s2 us ws (by rw [hK]; exact J.kIn) (r1.length.symm.trans l1) (r2.length.symm.trans l2)
    obtain ⟨xs, rx, dx⟩ := selV_rel (r1.append r2) (RDs.app d1 d2) sv hl
    exact run_g F room quiet tk J bnd rx (call_sp R2 dx q3)
  have body : TA_ G T cf W ees σ H fun vs H1 => TA_ G T cf W kes σ H1 fun zs H2 => vs.length = n ∧ zs.length = ks.length ∧ ∃ (ds es' : List D) (st2 : So) (as2 : List (Option Addr)), RSt G av as2 H2 st2 ∧ RDs G av as2 H2 ds vs ∧ RDs G av as2 H2 es' zs ∧
      Pst G av W σ (fun d _ as' H' => ∀ v, RD G av as' H' d v → Q v H') as2 H2 (match sels (ds ++ es') sel with
        | some as => callD cf i as st2
        | none => .bad) := by
    rw [evE, evEs_app, bind_assoc] at q
    refine ⟨av, as, ρ, st, R, E, ?_⟩
    cases h1 : evEs T cf ees ρ st with
    | bad => rw [h1] at q; exact q.elim
    | ex c ns vs st1 => rw [h1] at q; exact q
    | ok ds st1 =>
      rw [h1] at q
      intro as1 H1 l1 R1 vs rd
      refine ⟨av, as1, ρ, st1, R1, E.mono l1, ?_⟩
      have q : Pst G av W σ (fun d _ as' H' => ∀ v, RD G av as' H' d v → Q v H') as H (((evEs T cf kes ρ st1).bind fun ys st2 => Ou.ok (ds ++ ys) st2).bind fun ds st1 => match sels ds sel with
        | some as => callD cf i as st1
        | none => .bad) := q
      cases h2 : evEs T cf kes ρ st1 with
      | bad => rw [h2] at q; exact q.elim
      | ex c ns vs st1 => rw [h2] at q; exact Pst.shift l1 q
      | ok es' st2 =>
        rw [h2] at q
        intro as2 H2 l2 R2 zs rz
        exact ⟨by rw [← rd.len, evlen _ _ _ _ _ h1, hn2], by rw [← rz.len, evlen _ _ _ _ _ h2, hk2], ds, es', st2, as2, R2, rd.mono l2, rz, Pst.shift (l1.trans l2) q⟩
  refine wpAny_Call_Name_kw (ld_glob I hg hm ?_ hdb)
  cases es with
  | nil =>
    subst hn
    obtain rfl : ees = [] := List.length_eq_zero_iff.mp hn2
    obtain ⟨av0, as0, ρ0, st0, R0, E0, q0⟩ := body
    have q1 := Pst.now (a := ([] : List D)) (st := st0) q0 R0 [] rfl
    refine PySem.W.callWith_KW0 (h₀ := X.base) I.ok.mod.kin kp hall (thn (hk.run pos pins s σ H _ I q1) fun ws s2 ⟨zs, H2, I2, r2, l1, l2, ds, es', st2, as2, R2, d1, d2, q2⟩ => ⟨I2.kIn, ?_⟩) hpl
    rw [hks]
    exact last [] ws s2 H2 [] zs ds es' st2 as2 I2 .nil r2 l1 l2 R2 d1 d2 q2
  | cons e r =>
    refine PySem.W.callWith_KW (h₀ := X.base) I.ok.mod.kin kp hall (thn (he.run pos pins s σ H _ I body) fun us s1 ⟨vs, H1, I1, r1, q1⟩ => ?_) hpl hst
    refine thn (hk.run pos pins s1 σ H1 _ I1 q1) fun ws s2 ⟨zs, H2, I2, r2, l1, l2, ds, es', st2, as2, R2, d1, d2, q2⟩ => ⟨I2.kIn, ?_⟩
    rw [hks]
    exact last us ws s2 H2 vs zs ds es' st2 as2 I2 r1 r2 l1 l2 R2 d1 d2 q2
end
end Dp
set_option Elab.async false
set_option linter.all false
set_option maxRecDepth 100000
set_option maxHeartbeats 200000
/-! Dp, part 15: a body's context; the defs of a text, all at once. -/
namespace Dp
open PySem PySem.Spec PyProof.Rows L2

/-- a def of the text, with what it is in the small language -/
structure Fx where
  x : Str
  st : Stmt
  N : List Str
  ps : List Str
  fd : Fd
def HasF (K : PySem.W.Frag) (mg : Str → Option Value) (e : Fx) (f : Addr) (fd : FuncData) : Prop := FunD K e.x e.x (defArgs e.st) (defBody e.st) (defScope e.st) [] [] f fd ∧ mg e.x = some (.ref f)
/-- the callees -/
def Cls_ (P : Program) (w : World) (K : PySem.W.Frag) (mg : Str → Option Value) (base : Heap) (G : Gx) (cf : Cf) (fx : List Fx) (m : Nat) : Prop :=
  ∀ (i : Nat) e, fx[i]? = some e → ∃ f fd, HasF K mg e f fd ∧ FnG P w K mg base m f fd e.ps (spD G cf i)
/-- a name of the module -/
inductive Gv where
  | free
  | c (p : P)
def GvOk (G : Gx) (mg : Str → Option Value) (x : Str) : Gv → Prop
  | .free => mg x = none
  | .c p => ∃ v u, mg x = some u ∧ RelV v u ∧ ∀ av H, RP G av H p v

structure Ctx (G : Gx) (T : Tab) (cf : Cf) (fx : List Fx) (gl : List (Str × Gv)) (W : WX) (N : List Str) (sc : Scope) (all : Bool) (X : Cx) : Prop where
  n : X.N = N
  s : X.env.scope = sc
  nd : X.N.Nodup
  calm : X.calm = true
  k : G.K = X.K
  m : ∃ m, Room m X.A ∧ Cls_ X.prog X.w X.K X.mg X.base G cf fx m
  quiet : X.A.guards = some []
  tk : Takes X W
  pass : PassesOwn (model X.prog X.w) X.A X.env X.xe
  all : all = true → ∀ x, X.fn x = true
  kind : X.env.scope.kind = .function
  g : ∀ p ∈ gl, GvOk G X.mg p.1 p.2

def locB (sc : Scope) (x : Str) : Bool := decide (sc.names.lookup x = some .local)
def vaB (N : List Str) (sc : Scope) (i : Nat) (x : Str) : Bool := decide (N[i]? = some x) && (decide (sc.names.lookup x = some .local) || decide (sc.names.lookup x = some .cell) || decide (sc.names.lookup x = some .free)) && !(x == ("__debug__" : Str)) && !(x == ("__classdict__" : Str))
def stB (N : List Str) (sc : Scope) (all : Bool) (i : Nat) (x : Str) : Bool := decide (N[i]? = some x) && (decide (sc.names.lookup x = some .local) || (all && decide (sc.names.lookup x = some .cell)))
def glB (sc : Scope) (gl : List (Str × Gv)) (x : Str) : Bool := decide (sc.names.lookup x = some .globalImplicit) && !(x == ("__debug__" : Str)) && !(x == ("__name__" : Str))

section
variable {X : Cx} {G : Gx} {T : Tab} {cf : Cf} {fx : List Fx} {gl : List (Str × Gv)} {W : WX} {N : List Str} {sc : Scope} {all : Bool}
variable {a b c : Expr} {ea eb ec : Ex} {pos : Pos}
theorem Ctx.un (C : Ctx G T cf fx gl W N sc all X) : X.A.units + 64 < cLine := let ⟨_, r, _⟩ := C.m; r.units

theorem Ctx.va (C : Ctx G T cf fx gl W N sc all X) {i : Nat} {x : Str} (h : vaB N sc i x = true) : PE X (.Name x pos) (TE_ G T cf W (.va i)) := by
  unfold vaB at h
  simp only [Bool.and_eq_true, Bool.or_eq_true, decide_eq_true_eq, Bool.not_eq_true'] at h
  obtain ⟨⟨⟨h1, h2⟩, h3⟩, h4⟩ := h
  refine s_var (pe_var (by rw [C.n]; exact h1) ?_ h3 h4)
  rw [C.s]
  rcases h2 with (h2 | h2) | h2
  · exact .inl h2
  · exact .inr (.inl h2)
  · exact .inr (.inr h2)
structure StOk (X : Cx) (i : Nat) (x : Str) : Prop where
  n : X.N[i]? = some x
  l : Loc X.env.scope x
  f : X.fn x = true ∨ X.env.scope.names.lookup x = some .local
theorem Ctx.st (C : Ctx G T cf fx gl W N sc all X) {i : Nat} {x : Str} (h : stB N sc all i x = true) : StOk X i x := by
  unfold stB at h
  simp only [Bool.and_eq_true, Bool.or_eq_true, decide_eq_true_eq] at h
  obtain ⟨h1, h2⟩ := h
  refine ⟨by rw [C.n]; exact h1, ?_, ?_⟩
  · rw [C.s]
    rcases h2 with h2 | ⟨_, h2⟩
    · exact .inl h2
    · exact .inr h2
  · rcases h2 with h2 | ⟨ha, h2⟩
    · exact .inr (by rw [C.s]; exact h2)
    · exact .inl (C.all ha x)
theorem Ctx.gn (C : Ctx G T cf fx gl W N sc all X) {i : Nat} {x : Str} (h : stB N sc all i x = true) : PG X (.Name x pos) (TG_ G (.v i)) :=
  let s := C.st h
  g_name C.nd s.n s.l s.f
theorem Ctx.nm (C : Ctx G T cf fx gl W N sc all X) {i : Nat} {x : Str} (h : stB N sc all i x = true) : NmT X (.Name x pos) i :=
  let s := C.st h
  nm_t C.nd s.n s.l s.f
theorem Ctx.gi (C : Ctx G T cf fx gl W N sc all X) {x : Str} (h : glB sc gl x = true) : Gl X x ∧ (x == ("__debug__" : Str)) = false ∧ x ≠ "__name__" := by
  unfold glB at h
  simp only [Bool.and_eq_true, decide_eq_true_eq, Bool.not_eq_true'] at h
  obtain ⟨⟨h1, h2⟩, h3⟩ := h
  refine ⟨?_, h2, fun e => ?_⟩
  · show X.env.scope.names.lookup x = some .globalImplicit
    rw [C.s]
    exact h1
  · subst e
    simp at h3
theorem Ctx.fr (C : Ctx G T cf fx gl W N sc all X) {x : Str} (j : Nat) (h : gl[j]? = some (x, .free)) : X.mg x = none := C.g _ (ix_mem h)
theorem Ctx.gc (C : Ctx G T cf fx gl W N sc all X) {x : Str} {p : P} (j : Nat) (h : gl[j]? = some (x, .c p)) (hg : glB sc gl x = true) : PE X (.Name x pos) (TE_ G T cf W (.co p)) := by
  obtain ⟨v, u, h1, h2, h3⟩ : GvOk G X.mg x (.c p) := C.g _ (ix_mem h)
  exact s_con (pe_glob (C.gi hg).1 h1 h2 (C.gi hg).2.1) h3
theorem Ctx.ty (C : Ctx G T cf fx gl W N sc all X) {x : Str} {n : String} (j : Nat) (h : gl[j]? = some (x, .free)) (hg : glB sc gl x = true) (hv : bootBuiltins x = some (.type n)) : PE X (.Name x pos) (TE_ G T cf W (.co (.ty n))) :=
  s_con (pe_bltn (C.gi hg).1 (C.fr j h) hv (v := .ty n) rfl (C.gi hg).2.2 (C.gi hg).2.1) fun _ _ => rfl
theorem c_int {i : Int} {j : Nat} : PE X (.Constant (.int i) j pos) (TE_ G T cf W (.co (.int i))) := s_con pe_int fun _ _ => rfl
theorem c_str {i : Str} {j : Nat} : PE X (.Constant (.str i) j pos) (TE_ G T cf W (.co (.str i))) := s_con pe_str fun _ _ => rfl
theorem c_bl {i : Bool} {j : Nat} : PE X (.Constant (.bool i) j pos) (TE_ G T cf W (.co (.bl i))) := s_con pe_bl fun _ _ => rfl
theorem c_non {j : Nat} : PE X (.Constant .none j pos) (TE_ G T cf W (.co .non)) := s_con pe_non fun _ _ => rfl

theorem Ctx.ch (C : Ctx G T cf fx gl W N sc all X) {op op' : CmpOp} {o o' : O2} (h : OpS X (compareOp op) o) (h' : OpS X (compareOp op') o') (ho : o ∈ cmpOps) (ho' : o' ∈ cmpOps) (ha : PE X a (TE_ G T cf W ea)) (hb : PE X b (TE_ G T cf W eb)) (hc : PE X c (TE_ G T cf W ec)) (hm : lastMarks [op, op'] [b, c] = false) :
    PE X (.Compare a [op, op'] [b, c] pos) (TE_ G T cf W (.ch o o' ea eb ec)) := by
  obtain ⟨r, r', h1, h2, h3, _⟩ := chain_vals (G := G) (T := T) (cf := cf) (W := W) (ea := ea) (eb := eb) (ec := ec) C.k h h' ho ho'
  exact (pe_chain h1 h2 ha hb hc hm).imp h3
theorem Ctx.tch (C : Ctx G T cf fx gl W N sc all X) {op op' : CmpOp} {o o' : O2} (h : OpS X (compareOp op) o) (h' : OpS X (compareOp op') o') (ho : o ∈ cmpOps) (ho' : o' ∈ cmpOps) (ha : PE X a (TE_ G T cf W ea)) (hb : PE X b (TE_ G T cf W eb)) (hc : PE X c (TE_ G T cf W ec)) (hm : lastMarks [op, op'] [b, c] = false) :
    PT X (.Compare a [op, op'] [b, c] pos) (TT_ G T cf W (.ch o o' ea eb ec)) := by
  obtain ⟨r, r', h1, h2, _, h4⟩ := chain_vals (G := G) (T := T) (cf := cf) (W := W) (ea := ea) (eb := eb) (ec := ec) C.k h h' ho ho'
  exact (pt_chain h1 h2 ha hb hc hm).imp h4
theorem Ctx.bf (C : Ctx G T cf fx gl W N sc all X) {x : Str} {id : String} {p : Pr} {g : List P → Option P} {e : Expr} {es : List Expr} {ees : List Ex} {p2 : Pos} (j : Nat) (h : gl[j]? = some (x, .free)) (hg : glB sc gl x = true) (hv : bootBuiltins x = some (.builtin id)) (cs : CallS X (.builtin id) g) (hf : p.keeps = false) (hp : prim T p = g)
    (ha : PA X (e :: es) (TA_ G T cf W ees)) (he : starEach (e :: es) X.env = (false, eval e X.env) :: starEach es X.env) (hpl : (backTo pos (starEach es X.env)).any (·.1) = false) : PE X (.Call (.Name x p2) (e :: es) [] pos) (TE_ G T cf W (.pr p ees)) :=
  s_call (es := es) C.k hf hp cs fun r hr => pe_callB hr (C.gi hg).1 (C.fr j h) hv ha (C.gi hg).2.2 (C.gi hg).2.1 he hpl
theorem Ctx.bt (C : Ctx G T cf fx gl W N sc all X) {x : Str} {id : String} {p : Pr} {g : List P → Option P} {e : Expr} {es : List Expr} {ees : List Ex} {p2 : Pos} (j : Nat) (h : gl[j]? = some (x, .free)) (hg : glB sc gl x = true) (hv : bootBuiltins x = some (.type id)) (cs : CallS X (.type id) g) (hf : p.keeps = false) (hp : prim T p = g)
    (ha : PA X (e :: es) (TA_ G T cf W ees)) (he : starEach (e :: es) X.env = (false, eval e X.env) :: starEach es X.env) (hpl : (backTo pos (starEach es X.env)).any (·.1) = false) : PE X (.Call (.Name x p2) (e :: es) [] pos) (TE_ G T cf W (.pr p ees)) :=
  s_call (es := es) C.k hf hp cs fun r hr => pe_callTy hr (C.gi hg).1 (C.fr j h) hv ha (C.gi hg).2.2 (C.gi hg).2.1 he hpl
theorem Ctx.fc (C : Ctx G T cf fx gl W N sc all X) {i n : Nat} {e : Fx} {ks : List Str} {sel : List Sel} {p : Pos} {es : List Expr} {kws : List Keyword} {ees kes : List Ex} (hi : fx[i]? = some e) (hg : glB sc gl e.x = true)
    (bo : ∀ f fd, HasF G.K X.mg e f fd → BindOk G fd e.ps n ks sel) (he : PA X es (TA_ G T cf W ees)) (hk : PK X kws (TA_ G T cf W kes)) (hn : es.length = n) (hn2 : ees.length = n) (hk2 : kes.length = ks.length)
    (hst : match es with | [] => True | e :: r => starEach (e :: r) X.env = (false, eval e X.env) :: starEach r X.env)
    (hall : (backToKw pos (keywordEach kws X.env)).all (·.1.isSome) = true) (hks : (backToKw pos (keywordEach kws X.env)).filterMap (·.1) = ks)
    (hpl : ((backTo pos (starEach es X.env)).any (·.1) || (backToKw pos (keywordEach kws X.env)).any (·.1.isNone)) = false) :
    PE X (.Call (.Name e.x p) es kws pos) (TE_ G T cf W (.fc i sel (ees ++ kes))) := by
  obtain ⟨m, room, cl⟩ := C.m
  obtain ⟨f, fd, hf, F⟩ := cl i e hi
  exact s_fc C.k F room C.quiet C.tk (C.gi hg).1 hf.2 hf.1.kp (bo f fd (by rw [C.k]; exact hf)) he hk hn hn2 hk2 (C.gi hg).2.1 hst hall hks hpl

theorem takes_w0 (h : X.xe = fun _ _ => False) (hW : W = W0) : Takes X W := fun u s' ⟨_, _, _, _, _, _, _, _, _, _, _, _, _, _, _, _, w⟩ => by subst hW; exact w.elim
/-- in a comprehension's block -/
theorem Ctx.blk (C : Ctx G T cf fx gl W N sc all X) {scope : Scope} (hk : scope.kind = .function) (s : Shared) (H : Hp) (A : Addr) (cl : List (Str × Addr)) (fp : List Addr) : Ctx G T cf fx gl W0 N (relS scope sc) false (X.blk s H scope (compEnvC scope cl A X.env) fp) := by
  refine ⟨C.n, ?_, C.nd, C.calm, C.k, C.m, C.quiet, takes_w0 rfl rfl, PassesOwn.never, (fun h => nomatch h), ?_, C.g⟩
  · rw [← C.s]
    rfl
  · exact hk
end

/-- one def -/
theorem fn_ok {P : Program} {w : World} {K : PySem.W.Frag} {mg : Str → Option Value} {base : Heap} {G : Gx} {T : Tab} {fs : List Fd} {n k i : Nat} {e : Fx} {f : Addr} {fd : FuncData} (F : FunD K e.x e.x (defArgs e.st) (defBody e.st) (defScope e.st) [] [] f fd) (S : FnScope e.N e.ps (defScope e.st))
    (hi : fs[i]? = some e.fd) (hp : e.fd.np = e.ps.length) (hl : e.fd.nl = e.N.length)
    (hb : ∀ (cd : Value) (A : Around) (fr : List Env) (z : Shared) (H : Hp) (Z : XK), Room k (A.deeper (envOfC e.x (defScope e.st) z.heap.objs.size f cd)) → A.guards = some [] →
      PSs (bodyX P w K mg base e.N e.x (defScope e.st) f cd A fr z H Z) (defBody e.st) (TB_ G T (callF T fs n) (fun cls d _ H' => Z cls d H') e.fd.body)) :
    FnG P w K mg base (k + 1) f fd e.ps (spD G (callF T fs (n + 1)) i) := by
  have un : ∀ ds st, callF T fs (n + 1) i ds st = if ds.length = e.fd.np then (match evB T (callF T fs n) e.fd.body (ds.map some ++ List.replicate (e.fd.nl - e.fd.np) none) st with
      | .nx _ st1 => .ok (.p .non) st1
      | .rt d st1 => .ok d st1
      | .ex c ns vs _ st1 => .ex c ns vs st1
      | _ => .bad) else .bad := by
    intro ds st
    show (match fs[i]? with
      | some d => runF T (callF T fs n) d ds st
      | none => .bad) = _
    rw [hi]
    rfl
  have cnt : ∀ xs H Q Z, spD G (callF T fs (n + 1)) i xs H Q Z → xs.length = e.ps.length := by
    intro xs H Q Z ⟨av, as, ds, st, R, rd, q⟩
    rw [un] at q
    by_cases h : ds.length = e.fd.np
    · rw [← rd.len, h, hp]
    · rw [if_neg h] at q
      exact q.elim
  refine FnG.def_ F S cnt fun cd A fr z H xs Q Z room quiet want => ⟨_, hb cd A fr z H Z room quiet, ?_⟩
  have hx := cnt _ _ _ _ want
  obtain ⟨av, as, ds, st, R, rd, q⟩ := want
  rw [un] at q
  have hd : ds.length = e.fd.np := by rw [rd.len, hx, hp]
  rw [if_pos hd] at q
  have hpN : e.ps.length ≤ e.N.length := by
    have := congrArg List.length S.pre
    rw [List.length_take] at this
    omega
  refine ⟨av, as, ds.map some ++ List.replicate (e.fd.nl - e.fd.np) none, st, R, ⟨?_, fun j d ej => ?_⟩, ?_⟩
  · unfold L2.start
    rw [List.length_append, List.length_append, List.length_map, List.length_map, List.length_replicate, List.length_replicate]
    omega
  · unfold L2.start
    by_cases hj : j < ds.length
    · rw [List.getElem?_append_left (by rw [List.length_map]; exact hj), List.getElem?_map] at ej
      have get : ∀ {ds : List D} {vs : List V} {i : Nat} {d : D}, RDs G av as H ds vs → ds[i]? = some d → ∃ v, vs[i]? = some v ∧ RD G av as H d v := by
        intro ds
        induction ds with
        | nil => intro vs i d _ e; simp at e
        | cons y ds ih =>
          intro vs i d h e
          obtain ⟨v, w, rfl, h1, h2⟩ := h
          cases i with
          | zero =>
            rw [List.getElem?_cons_zero] at e
            cases e
            exact ⟨v, rfl, h1⟩
          | succ i =>
            rw [List.getElem?_cons_succ] at e
            obtain ⟨v', g1, g2⟩ := ih (vs := w) h2 e
            exact ⟨v', by rw [List.getElem?_cons_succ]; exact g1, g2⟩
      have e2 := List.getElem?_eq_getElem hj
      rw [e2] at ej
      cases ej
      obtain ⟨v, hv, rv⟩ := get rd e2
      refine ⟨v, ?_, rv⟩
      rw [List.getElem?_append_left (by rw [List.length_map, ← rd.len]; exact hj), List.getElem?_map, hv]
      rfl
    · rw [List.getElem?_append_right (by rw [List.length_map]; omega), List.getElem?_replicate] at ej
      split at ej <;> cases ej
  · revert q
    cases evB T (callF T fs n) e.fd.body (ds.map some ++ List.replicate (e.fd.nl - e.fd.np) none) st with
    | nx ρ st1 => intro q σ' as' H' l R1 N1; exact q as' H' l R1 .non rfl
    | rt d st1 => intro q v as' H' l R1 r; exact q as' H' l R1 v r
    | ex c ns ps ρ st1 => intro q σ' as' H' dx vs l R1 N1 h1 h2 h3; exact q as' H' dx vs l R1 h1 h2 h3
    | bk ρ st1 => intro q; exact q.elim
    | ct ρ st1 => intro q; exact q.elim
    | bad => intro q; exact q.elim

/-- what is shown of each def -/
structure Pf (G : Gx) (T : Tab) (fx : List Fx) (gl : List (Str × Gv)) (e : Fx) : Prop where
  S : FnScope e.N e.ps (defScope e.st)
  np : e.fd.np = e.ps.length
  nl : e.fd.nl = e.N.length
  body : ∀ (X : Cx) (cf : Cf) (W : WX), Ctx G T cf fx gl W e.N (defScope e.st) true X → PSs X (defBody e.st) (TB_ G T cf W e.fd.body)

theorem all_ok {P : Program} {w : World} {K : PySem.W.Frag} {mg : Str → Option Value} {base : Heap} {G : Gx} {T : Tab} {fx : List Fx} {gl : List (Str × Gv)} (hK : G.K = K) (hp : ∀ e ∈ fx, Pf G T fx gl e) (hh : ∀ e ∈ fx, ∃ f fd, HasF K mg e f fd) (hgl : ∀ p ∈ gl, GvOk G mg p.1 p.2) :
    ∀ n, Cls_ P w K mg base G (callF T (fx.map (·.fd)) n) fx n
  | 0 => fun i e hi => by
    obtain ⟨f, fd, h⟩ := hh e (ix_mem hi)
    exact ⟨f, fd, h, ⟨fun xs H Q Z ⟨_, _, _, _, _, _, q⟩ => q.elim, fun A fr z H ar us xs Q Z _ _ _ _ _ ⟨_, _, _, _, _, _, q⟩ => q.elim⟩⟩
  | n + 1 => fun i e hi => by
    have ih := all_ok (P := P) (w := w) (base := base) hK hp hh hgl n
    obtain ⟨f, fd, h⟩ := hh e (ix_mem hi)
    have pf := hp e (ix_mem hi)
    refine ⟨f, fd, h, fn_ok h.1 pf.S (by rw [List.getElem?_map, hi]; rfl) pf.np pf.nl fun cd A fr z H Z room quiet => pf.body _ _ _ ?_⟩
    exact ⟨rfl, rfl, pf.S.nd, rfl, hK, ⟨n, room, ih⟩, quiet, takes_of rfl rfl rfl rfl, passes_of rfl, fun _ _ => rfl, pf.S.kind, hgl⟩
end Dp
set_option Elab.async false
set_option linter.all false
set_option maxRecDepth 100000
set_option maxHeartbeats 200000
/-! Dp, part 16: a law's end; what is left of the forms. -/
namespace Dp
open PySem PySem.Spec PyProof.Rows L2

/-- the law's call, with a promise where no repr is under way -/
theorem call_law {P : Program} {w : World} {K : PySem.W.Frag} {mg mb : Str → Option Value} {m : Nat} {fa scr : Addr} {fd : FuncData} {x : Str} {sp : L2.Sp} {z : Shared} {us : List Value} {ns : List Int}
    (inn : K.In z.heap) (globs : z.heap.Ns mainGlobals mg) (blts : z.heap.Ns builtinsNs mb) (bb : ∀ y : Str, y ≠ "__name__" → mb y = bootBuiltins y) (nolim : z.heap.NoLimit) (nogen : z.gens = #[])
    (stands : z.heap.get? scr = some { cls := .type "list", data := .seq us.toArray }) (nums : IntsAre us ns) (short : ns.length ≤ sizeLine) (room : Room m callerA)
    (F : ∀ base : Heap, K.In base → base.Ns mainGlobals mg → FnG P w K mg base m fa fd [x] sp) (bnd : ∀ (s : Shared) (u : Value), BindsTo s fd ⟨[u], []⟩ [(x, u)])
    (word : ∀ H : Hp, Only H → SqL K H scr (ns.map V.int) → sp [.ref scr] H (fun v _ => v = .bl true) fun _ _ _ => False) :
    codeAny (model P w) callerA (.call (.ref fa) ⟨[.ref scr], []⟩) (fun r z' => r = .ok (.ret (.bool true)) ∧ OldK z.heap z'.heap ∧ z'.os = z.os ∧ AllBare z'.gens) z := by
  have rel : Vals (ns.map V.int) us := vals_ints nums
  have same : us.length = ns.length := nums.length
  -- one heap that tracks at most the script
  suffices main : ∀ H : Hp, Only H → SqL K H scr (ns.map V.int) → HOk P w H z.heap → (∀ b u, H b = some u → b = scr) → (∀ u, H scr = some u → K.lookup scr = none) →
      codeAny (model P w) callerA (.call (.ref fa) ⟨[.ref scr], []⟩) (fun r z' => r = .ok (.ret (.bool true)) ∧ OldK z.heap z'.heap ∧ z'.os = z.os ∧ AllBare z'.gens) z by
    rcases hk : K.lookup scr with _ | o
    · have fz : ∀ b u, (if b = scr then some (HO.frz { cls := .type "list", data := .seq us.toArray } (.lst (ns.map V.int))) else none) = some u → b = scr ∧ u = .frz { cls := .type "list", data := .seq us.toArray } (.lst (ns.map V.int)) := by
        intro b u e
        by_cases q : b = scr
        · rw [if_pos q] at e
          exact ⟨q, (Option.some.inj e).symm⟩
        · rw [if_neg q] at e
          cases e
      refine main (fun b => if b = scr then some (.frz { cls := .type "list", data := .seq us.toArray } (.lst (ns.map V.int))) else none) (fun b => ?_) (.inl (.inr ⟨_, if_pos rfl⟩)) (fun b u e => ?_) (fun b u e => (fz b u e).1) fun _ _ => hk
      · by_cases q : b = scr
        · exact .inr ⟨_, _, if_pos q⟩
        · exact .inl (if_neg q)
      · obtain ⟨q1, q2⟩ := fz b u e
        subst q1 q2
        exact ⟨stands, by rw [List.length_map]; exact short, us, _, rel, stands⟩
    · have e := inn scr o hk
      rw [stands] at e
      obtain rfl := Option.some.inj e
      have bound : us.toArray.size ≤ sizeLine := by rw [List.size_toArray, same]; exact short
      exact main (fun _ => none) (fun _ => .inl rfl) (.inr ⟨_, us.toArray, _, hk, rfl, rfl, rfl, bound, by simpa using rel⟩) (fun _ _ e => nomatch e) (fun _ _ e => nomatch e) fun _ e => nomatch e
  intro H only seq hok one away
  have out : ∀ {b : Addr} {o : Obj}, z.heap.get? b = some o → H b = none → (hidT z.heap H).get? b = some o := hidT_get
  have nodict : ∀ {b : Addr} {o : Obj} {es : Array DictEntry} {ep : Nat}, z.heap.get? b = some o → o.data = .dict es ep → H b = none := by
    intro b o es ep e d
    rcases q : H b with _ | u
    · rfl
    · rw [one b u q, stands] at e
      obtain rfl := Option.some.inj e
      exact nomatch (show Data.seq us.toArray _ = Data.dict es ep from d)
  have ns' : ∀ {b : Addr} {f : Str → Option Value}, z.heap.Ns b f → (hidT z.heap H).Ns b f := by
    intro b f ⟨o, es, ep, e, d, r⟩
    exact ⟨o, es, ep, out e (nodict e d), d, r⟩
  have inn' : K.In (hidT z.heap H) := by
    intro b o e
    refine out (inn b o e) ?_
    rcases q : H b with _ | u
    · rfl
    · have := one b u q
      subst this
      rw [away u q] at e
      cases e
  obtain ⟨mc, c1, c2⟩ := nolim
  have mod_ : Mod K mg (hidT z.heap H) := ⟨inn', ns' globs, ⟨mb, ns' blts, bb⟩, ⟨mc, ns' c1, c2⟩⟩
  have en : Env0 P w K mg (hidT z.heap H) callerA [] z H := ⟨rfl, mod_, fun _ _ e => of_hidT e, Nat.le_of_eq (hidT_size _ _), trivial, (fun _ e => nomatch e), hok, .of_eq nogen⟩
  refine codeAny_mono ((F _ inn' (ns' globs)).go callerA [] z H ⟨[.ref scr], []⟩ [.ref scr] [.ref scr] _ _ room rfl en (bnd z _) (.cons rfl .nil) (word H only seq)) fun r z' got => ?_
  match r, got with
  | .ok .next, got => exact got.elim
  | .ok .brk, got => exact got.elim
  | .ok .cont, got => exact got.elim
  | .error e, got =>
    obtain ⟨_, _, _, _, _, _, _, _, _, _, _, _, no⟩ := got
    exact no.elim
  | .ok (.ret u), got =>
    obtain ⟨v, H', os, bare, un, hok', ru, is⟩ := got
    obtain rfl : v = .bl true := is
    obtain rfl : u = .bool true := ru
    refine ⟨rfl, OldK.of_keep fun b o e => ?_, os, bare⟩
    rcases q : H b with _ | u
    · exact un.keep b o e q (fun no => nomatch no) (fun no => nomatch no)
    · rcases only b with no | ⟨ob, xs, fz⟩
      · rw [q] at no
        cases no
      · obtain ⟨g1, _⟩ := hok b _ fz
        obtain ⟨g2, _⟩ := hok' b _ (un.frzs b ob _ fz)
        rw [e] at g1
        obtain rfl := Option.some.inj g1
        exact g2

theorem walk_g {l : PySem.W.OpenLaw} {n m : Nat} {q : Program} {loose : List Str} {XP : (Str → Option Value) → Heap → Prop} {YP : World → Heap → Prop} {d : DefRec} {x : Str} (most : l.most = some n) (small : n ≤ sizeLine) (plain : d.params.defaults = []) (room : Room m callerA)
    (F : ∀ (w : World) (mg : Str → Option Value) (fa : Addr) (h : Heap), YP w h → h.Ns mainGlobals mg → mg d.name = some (.ref fa) → ∃ (K : PySem.W.Frag) (fd : FuncData) (sp : L2.Sp), K.In h ∧
      (∀ (s : Shared) (u : Value), BindsTo s fd ⟨[u], []⟩ [(x, u)]) ∧
      (∀ (H : Hp) (a : Addr) (ns : List Int), ns.length ≤ n → Only H → SqL K H a (ns.map V.int) → sp [.ref a] H (fun v _ => v = .bl true) fun _ _ _ => False) ∧
      ∀ base : Heap, K.In base → base.Ns mainGlobals mg → FnG l.prog w K mg base m fa fd [x] sp) : PySem.W.WalkO q loose XP YP l.row.toRowW d [] (fun f vs => PySem.call f vs) := by
  refine Att.attach_call most plain fun w _ z mg mb fa _ _ _ _ scr us ns gr Y _ _ _ isfa stands nums few nogen => ?_
  obtain ⟨K, fd, sp, inn, bnd, word, F⟩ := F w mg fa _ Y gr.T.g isfa
  exact call_law inn gr.T.g gr.T.b gr.T.builtins gr.T.nolimit nogen stands nums (Nat.le_trans few small) room F bnd fun H only seq => word H scr ns few only seq

/-- the law's word from the evaluator's -/
theorem law_word {G : Gx} {T : Tab} {cf : Cf} {i : Nat} {H : Hp} {a : Addr} {ns : List Int} (hS : SqL G.K H a (ns.map V.int)) (hO : Only H) {st : So} (h : cf i [.p (.fro (ns.map P.int))] [] = .ok (.p (.bl true)) st) :
    spD G cf i [.ref a] H (fun v _ => v = .bl true) fun _ _ _ => False := by
  have ri : ∀ (av : Addr → Prop) (l : List Int), RPs G av H (l.map P.int) (l.map V.int) := by
    intro av l
    induction l with
    | nil => rfl
    | cons i l ih => exact ⟨.int i, l.map V.int, rfl, rfl, ih⟩
  refine ⟨fun _ => False, [], [.p (.fro (ns.map P.int))], [], ⟨rfl, fun i c e => by simp at e, fun i a e => by simp at e, fun i j a e => by simp at e, fun i a e => by simp at e, fun a z => z.elim⟩, ⟨.ref a, [], rfl, ⟨a, ns.map V.int, rfl, ?_, ri _ ns⟩, rfl⟩, ?_⟩
  · rcases hS with (hS | ⟨o, hS⟩) | hS
    · rcases hO a with z | ⟨o, xs, z⟩
      · rw [z] at hS; cases hS
      · rw [z] at hS; cases hS
    · refine .inl ⟨o, hS, fun z => ?_⟩
      rcases z with z | z
      · exact z
      · cases z
    · exact .inr hS
  · rw [h]
    intro as' H' _ _ v r
    exact r

section
variable {X : Cx} {G : Gx} {T : Tab} {cf : Cf} {fx : List Fx} {gl : List (Str × Gv)} {W : WX} {N : List Str} {sc : Scope} {all : Bool}
variable {a b c : Expr} {ea eb ec : Ex} {pos : Pos}
theorem Ctx.bo (C : Ctx G T cf fx gl W N sc all X) {scope : Scope} {own : List (Str × Nat)} (h : blkC N sc scope own = true) : BlkOk X.N X.env.scope scope own := by
  rw [C.n, C.s]
  exact blkOk_by h
theorem Ctx.as (C : Ctx G T cf fx gl W N sc all X) {i : Nat} {x : Str} {p2 : Pos} (h : stB N sc all i x = true) (ha : PE X a (TE_ G T cf W ea)) (hs : swapsWith a (some (.Name x p2)) pos.line X.env = pure false) : PS X (.Assign [.Name x p2] a pos) (TS_ G T cf W (.as i ea)) :=
  let s := C.st h
  p_as C.nd s.n s.l ha hs s.f
theorem Ctx.bk (C : Ctx G T cf fx gl W N sc all X) : X.env.blockKind = .function := by
  unfold Env.blockKind
  rw [C.kind]
  rfl
theorem Ctx.lo (C : Ctx G T cf fx gl W N sc all X) {x : Str} (h : locB sc x = true) : X.env.scope.names.lookup x = some .local := by
  rw [C.s]
  exact of_decide_eq_true h
/-- x = [..] on one line, x a local -/
theorem Ctx.aslc (C : Ctx G T cf fx gl W N sc all X) {i : Nat} {y : Str} {py : Pos} {elt tg iter : Expr} {ifs : List Expr} {scope : Scope} {own : List (Str × Nat)} {spos : Pos} {t : Tg} {k : Nat} {cs : List Ex} {ee e : Ex} (h : stB N sc all i y = true) (hl : locB sc y = true)
    (hi : PI X tg iter (TI_ G T cf W k ea eb)) (ok : BlkOk X.N X.env.scope scope own)
    (hg : ∀ (s : Shared) (H : Hp) (A : Addr) (cl : List (Str × Addr)) (fp : List Addr), PG (X.blk s H scope (compEnvC scope cl A X.env) fp) tg (TG_ G t))
    (ht : ∀ (s : Shared) (H : Hp) (A : Addr) (cl : List (Str × Addr)) (fp : List Addr), PTs (X.blk s H scope (compEnvC scope cl A X.env) fp) ifs (TC_ G T cf W0 cs))
    (he : ∀ (s : Shared) (H : Hp) (A : Addr) (cl : List (Str × Addr)) (fp : List Addr), PE (X.blk s H scope (compEnvC scope cl A X.env) fp) elt (TE_ G T cf W0 ee)) (hf : ∀ x, foldedSetIterable iter X.env x = pure x)
    (hs : ∀ j ∈ tgs t, j ∈ own.map (·.2)) (hline : (py.line == pos.line) = true) (hnot : (scope.names.any fun (n, k) => n == y && (k == .local || k == .cell)) = false)
    (imp : ∀ σ H Q, TE_ G T cf W e σ H Q → TF_ G T cf W (.lc t (own.map (·.2)) k ea eb cs ee) σ H Q) : PS X (.Assign [.Name y py] (.ListComp elt [⟨tg, iter, ifs, 0⟩] scope pos) spos) (TS_ G T cf W (.as i e)) := by
  have s := C.st h
  have sw : swapsWith (.ListComp elt [⟨tg, iter, ifs, 0⟩] scope pos) (some (.Name y py)) spos.line X.env = pure true := by
    show (pure (X.env.blockKind == .function && X.env.kindOf y == some .local && py.line == pos.line && !(scope.names.any fun (n, k) => n == y && (k == .local || k == .cell))) : Sem Bool) = pure true
    rw [C.bk, show X.env.kindOf y = some .local from C.lo hl, hline, hnot]
    rfl
  exact p_asF (ps_setLc C.calm C.nd s.n (C.lo hl) sw hi ok hg ht he hf) fun σ H Q q => lc_imp hs σ H Q (imp σ H Q q)
/-- x = [..], x a cell -/
theorem Ctx.swc (C : Ctx G T cf fx gl W N sc all X) {y : Str} {py : Pos} {elt : Expr} {gs : List Comprehension} {scope : Scope} {n : Nat} (hl : locB sc y = false) : swapsWith (.ListComp elt gs scope pos) (some (.Name y py)) n X.env = pure false := by
  show (pure (X.env.blockKind == .function && X.env.kindOf y == some .local && py.line == pos.line && !(scope.names.any fun (n, k) => n == y && (k == .local || k == .cell))) : Sem Bool) = pure false
  have : (X.env.kindOf y == some .local) = false := by
    rw [beq_eq_false_iff_ne]
    intro e
    unfold Env.kindOf at e
    rw [C.s] at e
    exact absurd e (of_decide_eq_false hl)
  rw [this, Bool.and_false, Bool.false_and, Bool.false_and]
def isStar : Expr → Bool
  | .Starred .. => true
  | _ => false
theorem Ctx.sw2 (C : Ctx G T cf fx gl W N sc all X) {x y : Str} {px py pt pt2 : Pos} {kt k2 : Nat} (hx : locB sc x = true) (hy : locB sc y = true) (hxy : (x == y) = false) (l : (py.line == px.line) = true) (h1 : isStar a = false) (h2 : isStar b = false) (hf : [a, b].all (foldedForSure 8) = false) (hc : [a, b].all (constantsAlone 8) = false) :
    swappedStores [.Tuple [.Name x px, .Name y py] kt pt] (.Tuple [a, b] k2 pt2) X.env = pure (some [x, y]) := by
  have kx : X.env.kindOf x = some .local := C.lo hx
  have ky : X.env.kindOf y = some .local := C.lo hy
  have l' : py.line = px.line := eq_of_beq l
  have hne : ¬ x = y := fun e => by rw [e] at hxy; simp at hxy
  have hyx : (y == x) = false := beq_eq_false_iff_ne.mpr fun e => hne e.symm
  unfold swappedStores
  simp only [C.bk, hf, hc]
  simp [Expr.pos, kx, ky, l', List.filterMap_cons, List.eraseDups, List.eraseDupsBy, List.eraseDupsBy.loop, hyx]
  intro h
  exfalso
  rcases h with h | h
  · cases a <;> first | (cases h1; done) | (simp at h; done)
  · cases b <;> first | (cases h2; done) | (simp at h; done)
theorem Ctx.ap2 (C : Ctx G T cf fx gl W N sc all X) {i j : Nat} {x y : Str} {px py pt pt2 : Pos} {kt k2 : Nat} (si : stB N sc all i x = true) (sj : stB N sc all j y = true) (hx : locB sc x = true) (hy : locB sc y = true) (hxy : (x == y) = false) (hij : i ≠ j) (l : (py.line == px.line) = true) (h1 : isStar a = false) (h2 : isStar b = false)
    (hf : [a, b].all (foldedForSure 8) = false) (hc : [a, b].all (constantsAlone 8) = false) (ha : PA X [a, b] (TA_ G T cf W [ea, eb])) : PS X (.Assign [.Tuple [.Name x px, .Name y py] kt pt] (.Tuple [a, b] k2 pt2) pos) (TS_ G T cf W (.ap [i, j] [ea, eb])) :=
  p_ap2 C.calm C.nd (C.st si).n (C.st sj).n hij (C.lo hx) (C.lo hy) ha (C.sw2 hx hy hxy l h1 h2 hf hc)
theorem Ctx.sw3 (C : Ctx G T cf fx gl W N sc all X) {x y z : Str} {px py pz pt pt2 : Pos} {kt k2 : Nat} (hx : locB sc x = true) (hy : locB sc y = true) (hz : locB sc z = true) (hxy : (x == y) = false) (hxz : (x == z) = false) (hyz : (y == z) = false) (l : (py.line == px.line) = true) (m : (pz.line == px.line) = true)
    (h1 : isStar a = false) (h2 : isStar b = false) (h3 : isStar c = false) (hf : [a, b, c].all (foldedForSure 8) = false) (hc : [a, b, c].all (constantsAlone 8) = false) :
    swappedStores [.Tuple [.Name x px, .Name y py, .Name z pz] kt pt] (.Tuple [a, b, c] k2 pt2) X.env = pure (some [x, y, z]) := by
  have kx : X.env.kindOf x = some .local := C.lo hx
  have ky : X.env.kindOf y = some .local := C.lo hy
  have kz : X.env.kindOf z = some .local := C.lo hz
  have l' : py.line = px.line := eq_of_beq l
  have m' : pz.line = px.line := eq_of_beq m
  have rev : ∀ {x y : Str}, (x == y) = false → (y == x) = false := fun {x y} h => by
    rw [beq_eq_false_iff_ne] at h ⊢
    exact fun e => h e.symm
  have hyx := rev hxy
  have hzx := rev hxz
  have hzy := rev hyz
  unfold swappedStores
  simp only [C.bk, hf, hc]
  simp [Expr.pos, kx, ky, kz, l', m', List.filterMap_cons, List.eraseDups, List.eraseDupsBy, List.eraseDupsBy.loop, hyx, hzx, hzy]
  intro h
  exfalso
  rcases h with h | h | h
  · cases a <;> first | (cases h1; done) | (simp at h; done)
  · cases b <;> first | (cases h2; done) | (simp at h; done)
  · cases c <;> first | (cases h3; done) | (simp at h; done)
theorem Ctx.ap3 (C : Ctx G T cf fx gl W N sc all X) {i j k : Nat} {x y z : Str} {px py pz pt pt2 : Pos} {kt k2 : Nat} (si : stB N sc all i x = true) (sj : stB N sc all j y = true) (sk : stB N sc all k z = true) (hx : locB sc x = true) (hy : locB sc y = true) (hz : locB sc z = true)
    (hxy : (x == y) = false) (hxz : (x == z) = false) (hyz : (y == z) = false) (hij : i ≠ j) (hik : i ≠ k) (hjk : j ≠ k) (l : (py.line == px.line) = true) (m : (pz.line == px.line) = true) (h1 : isStar a = false) (h2 : isStar b = false) (h3 : isStar c = false)
    (hf : [a, b, c].all (foldedForSure 8) = false) (hc : [a, b, c].all (constantsAlone 8) = false) (ha : PA X [a, b, c] (TA_ G T cf W [ea, eb, ec])) :
    PS X (.Assign [.Tuple [.Name x px, .Name y py, .Name z pz] kt pt] (.Tuple [a, b, c] k2 pt2) pos) (TS_ G T cf W (.ap [i, j, k] [ea, eb, ec])) := by
  refine (ps_par3 C.calm C.nd (C.st si).n (C.st sj).n (C.st sk).n hij hik hjk (C.lo hx) (C.lo hy) (C.lo hz) ha (C.sw3 hx hy hz hxy hxz hyz l m h1 h2 h3 hf hc) rfl).imp fun E σ H ⟨av, as, ρ, st, R, N, q⟩ => ?_
  rw [evS] at q
  refine sa_step R N q fun d st1 as1 H1 v l R1 N1 rd q1 => ?_
  obtain ⟨hl, σ', q2, hs⟩ := ap_fin R1 N1 rd q1
  match v, hl with
  | [v1, v2, v3], _ => exact ⟨v1, v2, v3, rfl, by rw [hs] at q2; exact q2⟩
theorem Ctx.apN (C : Ctx G T cf fx gl W N sc all X) {ts es : List Expr} {is : List Nat} {ees : List Ex} {kt k2 : Nat} {pt pt2 : Pos} (hn : NmTs X ts is) (ha : PA X es (TA_ G T cf W ees)) (hl : is.length ≤ 1000)
    (hw : swappedStores [.Tuple ts kt pt] (.Tuple es k2 pt2) X.env = pure none) : PS X (.Assign [.Tuple ts kt pt] (.Tuple es k2 pt2) pos) (TS_ G T cf W (.ap is ees)) := p_apN C.k C.calm hn ha hl hw
def noStar (es : List Expr) : Bool := es.all fun e => !isStar e
theorem noStar_ok {es : List Expr} (h : noStar es = true) : ∀ e ∈ es, ∀ x p, e ≠ .Starred x p := fun e he x p z => by
  have := List.all_eq_true.mp h e he
  rw [z] at this
  cases this
theorem Ctx.gt (C : Ctx G T cf fx gl W N sc all X) {es : List Expr} {k : Nat} {ts : List Tg} (hs : noStar es = true) (hl : ts.length = es.length) (h : PGs X es (TGs_ G ts)) : PG X (.Tuple es k pos) (TG_ G (.t ts)) := g_tup C.k C.calm (noStar_ok hs) hl h
theorem m_eq : O2.eq ∈ cmpOps := by simp [cmpOps]
theorem m_ne : O2.ne ∈ cmpOps := by simp [cmpOps]
theorem m_lt : O2.lt ∈ cmpOps := by simp [cmpOps]
theorem m_le : O2.le ∈ cmpOps := by simp [cmpOps]
theorem m_gt : O2.gt ∈ cmpOps := by simp [cmpOps]
theorem m_ge : O2.ge ∈ cmpOps := by simp [cmpOps]
theorem m_in : O2.isin ∈ cmpOps := by simp [cmpOps]
theorem m_nin : O2.nin ∈ cmpOps := by simp [cmpOps]
theorem m_is : O2.is_ ∈ cmpOps := by simp [cmpOps]
theorem m_isn : O2.isn ∈ cmpOps := by simp [cmpOps]
/-- the arguments of a call, one after another -/
theorem bind_n {G : Gx} {mg : Str → Option Value} {e : Fx} {f : Addr} {fd : FuncData} {n : Nat} {ks : List Str} {sel : List Sel} (h : HasF G.K mg e f fd)
    (go : ∀ (kV doc pm : Value) (an : Option Addr) (cdv ct : Value) (us ws : List Value), us.length = n → ws.length = ks.length →
      ∃ bs, bindArgs (PySem.W.fnOf e.x e.x (defArgs e.st) (defBody e.st) (defScope e.st) .none kV doc pm an cdv ct) ⟨us, ks.zip ws⟩ = pure (e.ps.zip bs) ∧ SelV G (us ++ ws) sel bs) : BindOk G fd e.ps n ks sel := by
  obtain ⟨oc, od, dV, kV, doc, pm, an, cdv, ct, osl, rfl, lk, hcd, hD, hK⟩ := h.1.ex
  rcases hD with ⟨_, rfl⟩ | ⟨no, _⟩
  · refine ⟨fun z us ws _ hu hw => ?_⟩
    obtain ⟨bs, h1, h2⟩ := go kV doc pm an cdv ct us ws hu hw
    exact ⟨bs, .of_eq h1, h2⟩
  · exact absurd rfl no
end
end Dp
set_option Elab.async false
set_option linter.all false
set_option maxRecDepth 100000
set_option maxHeartbeats 200000
/-! Dp, part 17: blocks by any context. -/
namespace Dp
open PySem PySem.Spec PyProof.Rows L2

section
variable {X : Cx} {G : Gx} {T : Tab} {cf : Cf} {fx : List Fx} {gl : List (Str × Gv)} {W : WX} {N : List Str} {sc : Scope} {all : Bool}
variable {a b c tg : Expr} {ea eb ec : Ex} {pos : Pos}
theorem Ctx.inb {scope : Scope} {ee : Ex} (C : Ctx G T cf fx gl W N sc all X) (h : ∀ X' : Cx, Ctx G T cf fx gl W0 N (relS scope sc) false X' → PE X' a (TE_ G T cf W0 ee)) (hk : scope.kind = .function := by rfl) :
    ∀ (s : Shared) (H : Hp) (A : Addr) (cl : List (Str × Addr)) (fp : List Addr), PE (X.blk s H scope (compEnvC scope cl A X.env) fp) a (TE_ G T cf W0 ee) := fun s H A cl fp => h _ (C.blk hk s H A cl fp)
theorem Ctx.ing {scope : Scope} {t : Tg} (C : Ctx G T cf fx gl W N sc all X) (h : ∀ X' : Cx, Ctx G T cf fx gl W0 N (relS scope sc) false X' → PG X' a (TG_ G t)) (hk : scope.kind = .function := by rfl) :
    ∀ (s : Shared) (H : Hp) (A : Addr) (cl : List (Str × Addr)) (fp : List Addr), PG (X.blk s H scope (compEnvC scope cl A X.env) fp) a (TG_ G t) := fun s H A cl fp => h _ (C.blk hk s H A cl fp)
theorem Ctx.int0 {scope : Scope} (C : Ctx G T cf fx gl W N sc all X) :
    ∀ (s : Shared) (H : Hp) (A : Addr) (cl : List (Str × Addr)) (fp : List Addr), PTs (X.blk s H scope (compEnvC scope cl A X.env) fp) [] (TC_ G T cf W0 []) := fun s H A cl fp => c_nil
theorem Ctx.int1 {scope : Scope} {ee : Ex} (C : Ctx G T cf fx gl W N sc all X) (h : ∀ X' : Cx, Ctx G T cf fx gl W0 N (relS scope sc) false X' → PT X' a (TT_ G T cf W0 ee)) (hk : scope.kind = .function := by rfl) :
    ∀ (s : Shared) (H : Hp) (A : Addr) (cl : List (Str × Addr)) (fp : List Addr), PTs (X.blk s H scope (compEnvC scope cl A X.env) fp) [a] (TC_ G T cf W0 [ee]) := fun s H A cl fp => c_one (h _ (C.blk hk s H A cl fp))
theorem Ctx.lc (C : Ctx G T cf fx gl W N sc all X) {iter elt : Expr} {ifs : List Expr} {scope : Scope} {ow : List (Str × Nat)} {t : Tg} {k : Nat} {cs : List Ex} {ee : Ex} (hi : PI X tg iter (TI_ G T cf W k ea eb)) (ok : blkC N sc scope ow = true)
    (hg : ∀ (s : Shared) (H : Hp) (A : Addr) (cl : List (Str × Addr)) (fp : List Addr), PG (X.blk s H scope (compEnvC scope cl A X.env) fp) tg (TG_ G t))
    (ht : ∀ (s : Shared) (H : Hp) (A : Addr) (cl : List (Str × Addr)) (fp : List Addr), PTs (X.blk s H scope (compEnvC scope cl A X.env) fp) ifs (TC_ G T cf W0 cs))
    (he : ∀ (s : Shared) (H : Hp) (A : Addr) (cl : List (Str × Addr)) (fp : List Addr), PE (X.blk s H scope (compEnvC scope cl A X.env) fp) elt (TE_ G T cf W0 ee)) (hf : ∀ x, foldedSetIterable iter X.env x = pure x)
    (hs : ((tgs t).all fun j => decide (j ∈ ow.map (·.2))) = true) : PE X (.ListComp elt [⟨tg, iter, ifs, 0⟩] scope pos) (TF_ G T cf W (.lc t (ow.map (·.2)) k ea eb cs ee)) :=
  f_lc C.calm C.nd hi (C.bo ok) hg ht he hf fun j hj => of_decide_eq_true (List.all_eq_true.mp hs j hj)
theorem dlc {e : Expr} {own : List Nat} {t : Tg} {k : Nat} {cs : List Ex} {ee : Ex} (h : PE X e (TF_ G T cf W (.lc t own k ea eb cs ee))) : PE X e (TE_ G T cf W (.lc t own k ea eb cs ee)) := s_deep h fun _ _ _ _ q => lc_lst q
theorem Ctx.asl (C : Ctx G T cf fx gl W N sc all X) {i : Nat} {y : Str} {py : Pos} {elt iter : Expr} {ifs : List Expr} {scope : Scope} {ow : List (Str × Nat)} {spos : Pos} {t : Tg} {k : Nat} {cs : List Ex} {ee : Ex} (h : stB N sc all i y = true) (hl : locB sc y = true)
    (hi : PI X tg iter (TI_ G T cf W k ea eb)) (ok : blkC N sc scope ow = true)
    (hg : ∀ (s : Shared) (H : Hp) (A : Addr) (cl : List (Str × Addr)) (fp : List Addr), PG (X.blk s H scope (compEnvC scope cl A X.env) fp) tg (TG_ G t))
    (ht : ∀ (s : Shared) (H : Hp) (A : Addr) (cl : List (Str × Addr)) (fp : List Addr), PTs (X.blk s H scope (compEnvC scope cl A X.env) fp) ifs (TC_ G T cf W0 cs))
    (he : ∀ (s : Shared) (H : Hp) (A : Addr) (cl : List (Str × Addr)) (fp : List Addr), PE (X.blk s H scope (compEnvC scope cl A X.env) fp) elt (TE_ G T cf W0 ee)) (hf : ∀ x, foldedSetIterable iter X.env x = pure x)
    (hs : ((tgs t).all fun j => decide (j ∈ ow.map (·.2))) = true) (hline : (py.line == pos.line) = true) (hnot : (scope.names.any fun (n, k) => n == y && (k == .local || k == .cell)) = false) :
    PS X (.Assign [.Name y py] (.ListComp elt [⟨tg, iter, ifs, 0⟩] scope pos) spos) (TS_ G T cf W (.as i (.lc t (ow.map (·.2)) k ea eb cs ee))) ∧
      PS X (.Assign [.Name y py] (.ListComp elt [⟨tg, iter, ifs, 0⟩] scope pos) spos) (TS_ G T cf W (.as i (.ce (.lc t (ow.map (·.2)) k ea eb cs ee)))) :=
  have hs' : ∀ j ∈ tgs t, j ∈ ow.map (·.2) := fun j hj => of_decide_eq_true (List.all_eq_true.mp hs j hj)
  ⟨C.aslc h hl hi (C.bo ok) hg ht he hf hs' hline hnot (deep_imp fun _ _ _ _ q => lc_lst q), C.aslc h hl hi (C.bo ok) hg ht he hf hs' hline hnot cell_imp⟩
theorem Ctx.r1 (C : Ctx G T cf fx gl W N sc all X) {p : Pos} (j : Nat) (h : gl[j]? = some (("range" : Str), Gv.free)) (hg : glB sc gl "range" = true) (he : PA X [a] (TA_ G T cf W [ea])) (hs : starEach [a] X.env = [(false, eval a X.env)]) : PI X tg (.Call (.Name "range" p) [a] [] pos) (TI_ G T cf W 1 ea (.co .non)) :=
  pi_r1 (C.gi hg).1 (C.fr j h) he hs
theorem Ctx.r2 (C : Ctx G T cf fx gl W N sc all X) {p : Pos} (j : Nat) (h : gl[j]? = some (("range" : Str), Gv.free)) (hg : glB sc gl "range" = true) (he : PA X [a, b] (TA_ G T cf W [ea, eb])) (hs : starEach [a, b] X.env = [(false, eval a X.env), (false, eval b X.env)]) (hs2 : starEach [b] X.env = [(false, eval b X.env)]) :
    PI X tg (.Call (.Name "range" p) [a, b] [] pos) (TI_ G T cf W 2 ea eb) := pi_r2 (C.gi hg).1 (C.fr j h) he hs hs2
theorem Ctx.en (C : Ctx G T cf fx gl W N sc all X) {p tpos : Pos} {elts : List Expr} {kk : Nat} (j : Nat) (h : gl[j]? = some (("enumerate" : Str), Gv.free)) (hg : glB sc gl "enumerate" = true) (he : PA X [a] (TA_ G T cf W [ea])) (hs : starEach [a] X.env = [(false, eval a X.env)]) :
    PI X (.Tuple elts kk tpos) (.Call (.Name "enumerate" p) [a] [] pos) (TI_ G T cf W 3 ea (.co .non)) := pi_en C.k (C.gi hg).1 (C.fr j h) he hs
theorem Ctx.nol (C : Ctx G T cf fx gl W N sc all X) {x : Str} (h : locB sc x = false) : X.env.kindOf x ≠ some .local := fun e => by
  unfold Env.kindOf at e
  rw [C.s] at e
  exact absurd e (of_decide_eq_false h)
/-- names of which one is a cell are stored from the left -/
theorem Ctx.swn2 (C : Ctx G T cf fx gl W N sc all X) {x y : Str} {px py pt pt2 : Pos} {es : List Expr} {kt k2 : Nat} (h : (locB sc x && locB sc y) = false) : swappedStores [.Tuple [.Name x px, .Name y py] kt pt] (.Tuple es k2 pt2) X.env = pure none := by
  have key : ([Expr.Name x px, .Name y py].filterMap fun
      | .Name id pos => if (X.env.kindOf id == some .local && pos.line == px.line) = true then some id else none
      | _ => none).length ≠ 2 := by
    rw [Bool.and_eq_false_iff] at h
    rcases h with h | h
    · have := C.nol h
      simp [List.filterMap_cons, this]
      split <;> simp
    · have := C.nol h
      simp [List.filterMap_cons, this]
      split <;> simp
  unfold swappedStores
  dsimp only
  repeat' split
  all_goals first | rfl | skip
  all_goals
    rename_i a1 a2 a3 a4 a5
    exfalso
    refine a3 ?_
    rw [Bool.or_eq_true]
    exact .inl (bne_iff_ne.mpr key)
end
/-- a def's names, by computing -/
def fsB (N P : List Str) (sc : Scope) : Bool :=
  [decide (sc.kind = .function), !sc.isCoroutine, !sc.isGenerator, decide N.Nodup, decide (N.take P.length = P),
    P.all fun x => decide (sc.names.lookup x = some .local ∨ sc.names.lookup x = some .cell), sc.names.all fun y => decide (y.2 ≠ .free)].all id
theorem fs_ok {N P : List Str} {sc : Scope} (h : fsB N P sc = true) : FnScope N P sc := by
  unfold fsB at h
  simp only [List.all_cons, List.all_nil, id, Bool.and_true, Bool.and_eq_true, Bool.not_eq_true', decide_eq_true_eq, List.all_eq_true] at h
  obtain ⟨a1, a2, a3, a4, a5, a6, a7⟩ := h
  exact { kind := a1, co := a2, gen := a3, nd := a4, pre := a5, par := a6, nofree := a7 }
end Dp
set_option Elab.async false
set_option linter.all false
set_option maxRecDepth 100000
set_option maxHeartbeats 200000
/-! Dp, part 18: the evaluator by rewriting: what is to come is never opened early. -/
namespace Dp
open PySem

def bK {α β : Type} (x : Ou α) (f : α → So → Ou β) : Ou β := x.bind f
def tK {α : Type} (x : Ou α) (ρ : En) (f : α → So → SO) : SO := Ou.to ρ x f
@[simp] theorem bK_ok {α β : Type} (a : α) (st : So) (f : α → So → Ou β) : bK (.ok a st) f = f a st := rfl
@[simp] theorem bK_bad {α β : Type} (f : α → So → Ou β) : bK .bad f = .bad := rfl
@[simp] theorem tK_ok {α : Type} (a : α) (st : So) (ρ : En) (f : α → So → SO) : tK (.ok a st) ρ f = f a st := rfl
@[simp] theorem tK_bad {α : Type} (ρ : En) (f : α → So → SO) : tK .bad ρ f = .bad := rfl
def seqK (o : SO) (f : En → So → SO) : SO := match o with
  | .nx ρ1 st1 => f ρ1 st1
  | o => o
@[simp] theorem seqK_nx (ρ : En) (st : So) (f : En → So → SO) : seqK (.nx ρ st) f = f ρ st := rfl
@[simp] theorem seqK_rt (d : D) (st : So) (f : En → So → SO) : seqK (.rt d st) f = .rt d st := rfl
@[simp] theorem seqK_bk (ρ : En) (st : So) (f : En → So → SO) : seqK (.bk ρ st) f = .bk ρ st := rfl
@[simp] theorem seqK_ct (ρ : En) (st : So) (f : En → So → SO) : seqK (.ct ρ st) f = .ct ρ st := rfl
def vaK (o : Option (Option D)) (st : So) : Ou D := match o with
  | some (some d) => .ok d st
  | _ => .bad
@[simp] theorem vaK_some (d : D) (st : So) : vaK (some (some d)) st = .ok d st := rfl
def brK {α : Type} (o : Option Bool) (x y : Unit → Ou α) : Ou α := match o with
  | some true => x ()
  | some false => y ()
  | none => .bad
def anK (T : Tab) (cf : Cf) (b : Ex) (ρ : En) (d : D) (st : So) : Ou D := match (view st d).bind truP with
  | some true => evE T cf b ρ st
  | some false => .ok d st
  | none => .bad
def orK (T : Tab) (cf : Cf) (b : Ex) (ρ : En) (d : D) (st : So) : Ou D := match (view st d).bind truP with
  | some true => .ok d st
  | some false => evE T cf b ρ st
  | none => .bad
def ifK (T : Tab) (cf : Cf) (a b : Ex) (ρ : En) (d : D) (st : So) : Ou D := match (view st d).bind truP with
  | some true => evE T cf a ρ st
  | some false => evE T cf b ρ st
  | none => .bad
def noK (d : D) (st : So) : Ou D := match (view st d).bind truP with
  | some b => .ok (.p (.bl (!b))) st
  | none => .bad
def evTK (d : D) (st : So) : Ou Bool := match (view st d).bind truP with
  | some b => .ok b st
  | none => .bad
section
variable {T : Tab} {cf : Cf} {ρ : En} {st : So} {a b c e : Ex} {es : List Ex} {x : P} {d : D}
theorem anK_t (h : (view st d).bind truP = some true) : anK T cf b ρ d st = evE T cf b ρ st := by unfold anK; rw [h]
theorem anK_f (h : (view st d).bind truP = some false) : anK T cf b ρ d st = .ok d st := by unfold anK; rw [h]
theorem orK_t (h : (view st d).bind truP = some true) : orK T cf b ρ d st = .ok d st := by unfold orK; rw [h]
theorem orK_f (h : (view st d).bind truP = some false) : orK T cf b ρ d st = evE T cf b ρ st := by unfold orK; rw [h]
theorem ifK_t (h : (view st d).bind truP = some true) : ifK T cf a b ρ d st = evE T cf a ρ st := by unfold ifK; rw [h]
theorem ifK_f (h : (view st d).bind truP = some false) : ifK T cf a b ρ d st = evE T cf b ρ st := by unfold ifK; rw [h]
theorem noK_o {k : Bool} (h : (view st d).bind truP = some k) : noK d st = .ok (.p (.bl (!k))) st := by unfold noK; rw [h]
theorem evTK_o {k : Bool} (h : (view st d).bind truP = some k) : evTK d st = .ok k st := by unfold evTK; rw [h]
@[simp] theorem anK_bl {k : Bool} : anK T cf b ρ (.p (.bl k)) st = if k then evE T cf b ρ st else .ok (.p (.bl k)) st := by cases k <;> rfl
@[simp] theorem orK_bl {k : Bool} : orK T cf b ρ (.p (.bl k)) st = if k then .ok (.p (.bl k)) st else evE T cf b ρ st := by cases k <;> rfl
@[simp] theorem ifK_bl {k : Bool} : ifK T cf a b ρ (.p (.bl k)) st = if k then evE T cf a ρ st else evE T cf b ρ st := by cases k <;> rfl
@[simp] theorem noK_bl {k : Bool} : noK (.p (.bl k)) st = .ok (.p (.bl (!k))) st := rfl
@[simp] theorem evTK_bl {k : Bool} : evTK (.p (.bl k)) st = .ok k st := rfl

def consK (T : Tab) (cf : Cf) (r : List Ex) (ρ : En) (d : D) (st : So) : Ou (List D) := bK (evEs T cf r ρ st) fun ds st2 => .ok (d :: ds) st2
@[simp] theorem consK_e {r : List Ex} : consK T cf r ρ d st = bK (evEs T cf r ρ st) fun ds st2 => .ok (d :: ds) st2 := rfl
@[simp] theorem e_va {i : Nat} : evE T cf (.va i) ρ st = vaK ρ[i]? st := by rw [evE]; rfl
@[simp] theorem e_co : evE T cf (.co x) ρ st = .ok (.p x) st := by rw [evE]
@[simp] theorem e_pr {f : Pr} : evE T cf (.pr f es) ρ st = bK (evEs T cf es ρ st) (doPr T f) := by rw [evE]; rfl
@[simp] theorem es_nil : evEs T cf [] ρ st = .ok [] st := by rw [evEs]
@[simp] theorem es_cons : evEs T cf (e :: es) ρ st = bK (evE T cf e ρ st) (consK T cf es ρ) := by rw [evEs]; rfl
def ceK (d : D) (st : So) : Ou D := match d with
  | .p (.lst l) => .ok (.r st.length) (st ++ [.lst l])
  | _ => .bad
@[simp] theorem ceK_l {l : List P} : ceK (.p (.lst l)) st = .ok (.r st.length) (st ++ [.lst l]) := rfl
@[simp] theorem e_ce : evE T cf (.ce e) ρ st = bK (evE T cf e ρ st) ceK := by rw [evE]; rfl
@[simp] theorem e_an : evE T cf (.an a b) ρ st = bK (evE T cf a ρ st) (anK T cf b ρ) := by rw [evE]; rfl
@[simp] theorem e_or : evE T cf (.or a b) ρ st = bK (evE T cf a ρ st) (orK T cf b ρ) := by rw [evE]; rfl
@[simp] theorem e_no : evE T cf (.no a) ρ st = bK (evE T cf a ρ st) noK := by rw [evE]; rfl
@[simp] theorem e_if : evE T cf (.if_ c a b) ρ st = bK (evE T cf c ρ st) (ifK T cf a b ρ) := by rw [evE]; rfl
def ch3 (T : Tab) (cf : Cf) (o2 : O2) (c : Ex) (ρ : En) (y : D) (k : D) (st : So) : Ou D := match k with
  | .p (.bl true) => bK (evE T cf c ρ st) fun z st4 => doPr T (.op o2) [y, z] st4
  | .p (.bl false) => .ok (.p (.bl false)) st
  | _ => .bad
def ch2 (T : Tab) (cf : Cf) (o1 o2 : O2) (c : Ex) (ρ : En) (x : D) (y : D) (st : So) : Ou D := bK (doPr T (.op o1) [x, y] st) (ch3 T cf o2 c ρ y)
def ch1 (T : Tab) (cf : Cf) (o1 o2 : O2) (b c : Ex) (ρ : En) (x : D) (st : So) : Ou D := bK (evE T cf b ρ st) (ch2 T cf o1 o2 c ρ x)
@[simp] theorem e_ch {o1 o2 : O2} : evE T cf (.ch o1 o2 a b c) ρ st = bK (evE T cf a ρ st) (ch1 T cf o1 o2 b c ρ) := by rw [evE]; rfl
@[simp] theorem ch1_e {o1 o2 : O2} : ch1 T cf o1 o2 b c ρ d st = bK (evE T cf b ρ st) (ch2 T cf o1 o2 c ρ d) := rfl
@[simp] theorem ch2_e {o1 o2 : O2} {y : D} : ch2 T cf o1 o2 c ρ d y st = bK (doPr T (.op o1) [d, y] st) (ch3 T cf o2 c ρ y) := rfl
@[simp] theorem ch3_bl {o2 : O2} {k : Bool} : ch3 T cf o2 c ρ d (.p (.bl k)) st = if k then bK (evE T cf c ρ st) fun z st4 => doPr T (.op o2) [d, z] st4 else .ok (.p (.bl false)) st := by cases k <;> rfl
def fcK (cf : Cf) (f : Nat) (sel : List Sel) (ds : List D) (st : So) : Ou D := match sels ds sel with
  | some as => callD cf f as st
  | none => .bad
@[simp] theorem e_fc {f : Nat} {sel : List Sel} : evE T cf (.fc f sel es) ρ st = bK (evEs T cf es ρ st) (fcK cf f sel) := by rw [evE]; rfl
theorem fcK_o {f : Nat} {sel : List Sel} {ds as : List D} (h : sels ds sel = some as) : fcK cf f sel ds st = callD cf f as st := by unfold fcK; rw [h]
def me2 (T : Tab) (p : Pr) (x : D) (ds : List D) (st : So) : Ou D := doPr T p (x :: ds) st
def meK (T : Tab) (cf : Cf) (p : Pr) (n : String) (es : List Ex) (ρ : En) (x : D) (st : So) : Ou D := if (view st x).bind tyP = some n then bK (evEs T cf es ρ st) (me2 T p x) else .bad
@[simp] theorem e_me {p : Pr} {n : String} : evE T cf (.me p n a es) ρ st = bK (evE T cf a ρ st) (meK T cf p n es ρ) := by rw [evE]; rfl
@[simp] theorem meK_s {p : Pr} {s : Str} : meK T cf p "str" es ρ (.p (.str s)) st = bK (evEs T cf es ρ st) (me2 T p (.p (.str s))) := if_pos rfl
@[simp] theorem me2_e {p : Pr} {ds : List D} : me2 T p d ds st = doPr T p (d :: ds) st := rfl
def d1K (T : Tab) (cf : Cf) (b : Ex) (ρ : En) (d : D) (st : So) : Ou D := bK (evE T cf b ρ st).noex fun e st2 => d1F d e st2
@[simp] theorem e_d1 : evE T cf (.d1 a b) ρ st = bK (evE T cf a ρ st).noex (d1K T cf b ρ) := by rw [evE]; rfl
@[simp] theorem d1K_e : d1K T cf b ρ d st = bK (evE T cf b ρ st).noex fun e st2 => d1F d e st2 := rfl
@[simp] theorem d1F_s {s : Str} : d1F (.p (.str s)) (.p x) st = .ok (.p (.dic [.str s] [x])) st := rfl
@[simp] theorem e_lc {t : Tg} {own : List Nat} {k : Nat} {cs : List Ex} : evE T cf (.lc t own k a b cs e) ρ st = bK (itr k (evE T cf a ρ st) fun st1 => evE T cf b ρ st1) fun l st2 => lcL (lcB T cf t own cs e ρ) l [] st2 := evE_lc
@[simp] theorem c_nil_e : evC T cf [] ρ st = .ok true st := by rw [evC]
@[simp] theorem itr_ok {k : Nat} {y : So → Ou D} : itr k (.ok d st) y = bK (y st) fun e st2 => itF k d e st2 := rfl
def s3b (x : D) (i : Int) (z : D) (st : So) : Ou D := match z with
  | .p (.int j) => match (view st x).bind fun v => cutP v (some i) (some j) with
    | some r => .ok (.p r) st
    | none => .bad
  | _ => .bad
def s3a (T : Tab) (cf : Cf) (c : Ex) (ρ : En) (x y : D) (st : So) : Ou D := match y with
  | .p (.int i) => bK (evE T cf c ρ st) (s3b x i)
  | _ => .bad
def s3K (T : Tab) (cf : Cf) (b c : Ex) (ρ : En) (x : D) (st : So) : Ou D := bK (evE T cf b ρ st) (s3a T cf c ρ x)
@[simp] theorem e_s3 : evE T cf (.s3 a b c) ρ st = bK (evE T cf a ρ st) (s3K T cf b c ρ) := by rw [evE]; rfl
@[simp] theorem s3K_e : s3K T cf b c ρ d st = bK (evE T cf b ρ st) (s3a T cf c ρ d) := rfl
@[simp] theorem s3a_e {i : Int} : s3a T cf c ρ d (.p (.int i)) st = bK (evE T cf c ρ st) (s3b d i) := rfl

theorem evT_e : evT T cf e ρ st = bK (evE T cf e ρ st) evTK := rfl

/-! ### statements -/
variable {s : Sm} {l l1 l2 : List Sm}
@[simp] theorem b_nil_e : evB T cf [] ρ st = .nx ρ st := by rw [evB]
@[simp] theorem b_cons_e : evB T cf (s :: l) ρ st = seqK (evS T cf s ρ st) (evB T cf l) := by
  rw [evB]
  unfold seqK
  cases evS T cf s ρ st <;> rfl
def asK (i : Nat) (ρ : En) (d : D) (st : So) : SO := if i < ρ.length then .nx (ρ.set i (some d)) st else .bad
@[simp] theorem s_as_e {i : Nat} : evS T cf (.as i e) ρ st = tK (evE T cf e ρ st) ρ (asK i ρ) := by rw [evS]; rfl
@[simp] theorem asK_e {i : Nat} : asK i ρ d st = if i < ρ.length then .nx (ρ.set i (some d)) st else .bad := rfl
def apK (is : List Nat) (ρ : En) (ds : List D) (st : So) : SO := match setAll is ds ρ with
  | some ρ1 => .nx ρ1 st
  | none => .bad
@[simp] theorem s_ap_e {is : List Nat} : evS T cf (.ap is es) ρ st = tK (evEs T cf es ρ st) ρ (apK is ρ) := by rw [evS]; rfl
theorem apK_o {is : List Nat} {ds : List D} {ρ1 : En} (h : setAll is ds ρ = some ρ1) : apK is ρ ds st = .nx ρ1 st := by unfold apK; rw [h]
def sx3 (ρ : En) (v d : D) (k : D) (st : So) : SO := sxF ρ v d k st
def sx2 (T : Tab) (cf : Cf) (i : Ex) (ρ : En) (v : D) (d : D) (st : So) : SO := tK (evE T cf i ρ st) ρ (sx3 ρ v d)
def sx1 (T : Tab) (cf : Cf) (o i : Ex) (ρ : En) (v : D) (st : So) : SO := tK (evE T cf o ρ st) ρ (sx2 T cf i ρ v)
@[simp] theorem s_sx_e : evS T cf (.sx a b e) ρ st = tK (evE T cf e ρ st) ρ (sx1 T cf a b ρ) := by rw [evS]; rfl
@[simp] theorem sx1_e : sx1 T cf a b ρ d st = tK (evE T cf a ρ st) ρ (sx2 T cf b ρ d) := rfl
@[simp] theorem sx2_e {v : D} : sx2 T cf b ρ v d st = tK (evE T cf b ρ st) ρ (sx3 ρ v d) := rfl
@[simp] theorem sx3_e {v k : D} : sx3 ρ v d k st = sxF ρ v d k st := rfl
def ap2K (ρ : En) (d v : D) (st : So) : SO := apF ρ d v st
def ap1K (T : Tab) (cf : Cf) (e : Ex) (ρ : En) (d : D) (st : So) : SO := if isLs st d then tK (evE T cf e ρ st) ρ (ap2K ρ d) else .bad
@[simp] theorem s_app_e : evS T cf (.app a e) ρ st = tK (evE T cf a ρ st) ρ (ap1K T cf e ρ) := by rw [evS]; rfl
@[simp] theorem ap1K_e : ap1K T cf e ρ d st = if isLs st d then tK (evE T cf e ρ st) ρ (ap2K ρ d) else .bad := rfl
@[simp] theorem ap2K_e {v : D} : ap2K ρ d v st = apF ρ d v st := rfl
def ifS (T : Tab) (cf : Cf) (l1 l2 : List Sm) (ρ : En) (k : Bool) (st : So) : SO := if k then evB T cf l1 ρ st else evB T cf l2 ρ st
@[simp] theorem s_if_e : evS T cf (.if_ c l1 l2) ρ st = tK (bK (evE T cf c ρ st) evTK) ρ (ifS T cf l1 l2 ρ) := by rw [evS]; rfl
@[simp] theorem ifS_e {k : Bool} : ifS T cf l1 l2 ρ k st = if k then evB T cf l1 ρ st else evB T cf l2 ρ st := rfl
def rtK (d : D) (st : So) : SO := .rt d st
@[simp] theorem s_rt_e : evS T cf (.rt e) ρ st = tK (evE T cf e ρ st) ρ rtK := by rw [evS]; rfl
@[simp] theorem rtK_e : rtK d st = .rt d st := rfl
@[simp] theorem s_rn_e : evS T cf .rn ρ st = .rt (.p .non) st := by rw [evS]
@[simp] theorem s_ps_e : evS T cf .ps ρ st = .nx ρ st := by rw [evS]
@[simp] theorem s_br_e : evS T cf .br ρ st = .bk ρ st := by rw [evS]
@[simp] theorem s_ct_e : evS T cf .ct ρ st = .ct ρ st := by rw [evS]
def exK (ρ : En) (d : D) (st : So) : SO := .nx ρ st
@[simp] theorem s_ex_e : evS T cf (.ex e) ρ st = tK (evE T cf e ρ st) ρ (exK ρ) := by rw [evS]; rfl
@[simp] theorem exK_e : exK ρ d st = .nx ρ st := rfl
def foK (T : Tab) (cf : Cf) (t : Tg) (l : List Sm) (ρ : En) (xs : List P) (st : So) : SO := forL (forB T cf t l) xs ρ st
@[simp] theorem s_for_e {t : Tg} {k : Nat} : evS T cf (.for_ t k a b l) ρ st = tK (itr k (evE T cf a ρ st) fun st1 => evE T cf b ρ st1) ρ (foK T cf t l ρ) := by rw [evS]; rfl
@[simp] theorem foK_e {t : Tg} {xs : List P} : foK T cf t l ρ xs st = forL (forB T cf t l) xs ρ st := rfl

/-! ### values -/
@[simp] theorem doPr_v {f : Pr} {ds : List D} : doPr T f ds st = match (if f.keeps then pures ds else views st ds) with
  | some ps => match prim T f ps with
    | some x => .ok (.p x) st
    | none => .bad
  | none => .bad := rfl
end
/-- a loop by what stays true -/
theorem forL_inv {bd : P → En → So → SO} (I : En → So → Prop) : ∀ (l : List P) (ρ : En) (st : So), (∀ x ∈ l, ∀ ρ st, I ρ st → ∃ ρ1 st1, bd x ρ st = .nx ρ1 st1 ∧ I ρ1 st1) → I ρ st → ∃ ρ1 st1, forL bd l ρ st = .nx ρ1 st1 ∧ I ρ1 st1
  | [], ρ, st, _, h => ⟨ρ, st, rfl, h⟩
  | x :: l, ρ, st, hb, h => by
    obtain ⟨ρ1, st1, e, h1⟩ := hb x List.mem_cons_self ρ st h
    obtain ⟨ρ2, st2, e2, h2⟩ := forL_inv I l ρ1 st1 (fun y hy => hb y (List.mem_cons_of_mem _ hy)) h1
    exact ⟨ρ2, st2, by rw [forL, e]; exact e2, h2⟩
/-- a comprehension whose elements are told one by one, the store as it is -/
theorem lcL_map {bd : P → So → Ou (Option P)} {f : P → P} {st : So} : ∀ (l acc : List P), (∀ x ∈ l, bd x st = .ok (some (f x)) st) → lcL bd l acc st = .ok (.p (.lst (acc ++ l.map f))) st
  | [], acc, _ => by rw [lcL, List.map_nil, List.append_nil]
  | x :: l, acc, h => by
    rw [lcL, h x List.mem_cons_self]
    show lcL bd l (acc ++ [f x]) st = _
    rw [lcL_map l _ fun y hy => h y (List.mem_cons_of_mem _ hy), List.map_cons, List.append_assoc]
    rfl
/-- .. each element of a kind, the store kept by what stays true -/
theorem lcL_inv {bd : P → So → Ou (Option P)} (I : So → Prop) (R : P → Prop) : ∀ (l acc : List P) (st : So), (∀ x ∈ l, ∀ st, I st → ∃ y st1, bd x st = .ok (some y) st1 ∧ R y ∧ I st1) → I st → (∀ y ∈ acc, R y) →
    ∃ r st1, lcL bd l acc st = .ok (.p (.lst r)) st1 ∧ I st1 ∧ (∀ y ∈ r, R y) ∧ r.length = acc.length + l.length
  | [], acc, st, _, h, ha => ⟨acc, st, rfl, h, ha, rfl⟩
  | x :: l, acc, st, hb, h, ha => by
    obtain ⟨y, st1, e, hy, h1⟩ := hb x List.mem_cons_self st h
    obtain ⟨r, st2, e2, h2, h3, h4⟩ := lcL_inv I R l (acc ++ [y]) st1 (fun z hz => hb z (List.mem_cons_of_mem _ hz)) h1 (fun z hz => by
      rcases List.mem_append.mp hz with hz | hz
      · exact ha z hz
      · rw [List.mem_singleton.mp hz]; exact hy)
    refine ⟨r, st2, by rw [lcL, e]; exact e2, h2, h3, ?_⟩
    rw [h4, List.length_append, List.length_cons, List.length_cons]
    show acc.length + (0 + 1) + l.length = acc.length + (l.length + 1)
    omega
/-- a call with one cell in front -/
theorem call_one {cf : Cf} {f c : Nat} {ds : List P} {st : So} {x : Cl} {r : Ou D} (hx : st[c]? = some x) (hn : x ≠ .dead) (h : cf f (.r 0 :: ds.map .p) [x] = r) : callD cf f (.r c :: ds.map .p) st = back [c] st r := by
  have hr : ∀ l : List P, refs (l.map D.p) = [] := fun l => by
    induction l with
    | nil => rfl
    | cons y l ih => exact ih
  have hm : ∀ (l : List P) (n : Nat), renum n (l.map D.p) = l.map D.p := fun l => by
    induction l with
    | nil => intro n; rfl
    | cons y l ih =>
      intro n
      show D.p y :: renum n (l.map D.p) = _
      rw [ih]
      rfl
  unfold callD
  rw [show refs (.r c :: ds.map .p) = [c] by show c :: refs (ds.map .p) = [c]; rw [hr]]
  rw [show renum 0 (.r c :: ds.map .p) = .r 0 :: ds.map .p by show D.r 0 :: renum 1 (ds.map .p) = _; rw [hm]]
  have hg : getAll st [c] = some [x] := by
    show (match st[c]?, getAll st [] with
      | some .dead, _ => none
      | some x, some xs => some (x :: xs)
      | _, _ => none) = _
    rw [hx]
    cases x with
    | dead => exact absurd rfl hn
    | lst l => rfl
    | ins a b c => rfl
  show (if [c].Nodup then (match getAll st [c] with
    | some lo => back [c] st (cf f (.r 0 :: ds.map .p) lo)
    | none => .bad) else .bad) = _
  rw [if_pos (by simp), hg]
  show back [c] st (cf f (.r 0 :: ds.map .p) [x]) = _
  rw [h]
/-- a call without cells -/
theorem call_pure {cf : Cf} {f : Nat} {ds : List P} {st : So} {r : Ou D} (h : cf f (ds.map .p) [] = r) : callD cf f (ds.map .p) st = back [] st r := by
  have hr : ∀ l : List P, refs (l.map D.p) = [] := fun l => by
    induction l with
    | nil => rfl
    | cons y l ih => exact ih
  have hm : ∀ (l : List P) (n : Nat), renum n (l.map D.p) = l.map D.p := fun l => by
    induction l with
    | nil => intro n; rfl
    | cons y l ih =>
      intro n
      show D.p y :: renum n (l.map D.p) = _
      rw [ih]
      rfl
  unfold callD
  rw [hr, hm]
  show (if [].Nodup then back [] st (cf f (ds.map .p) []) else .bad) = _
  rw [if_pos List.nodup_nil, h]
theorem same_fd {K : PySem.W.Frag} {x q : Str} {params : Arguments} {body : List Stmt} {sc : Scope} {dvs : List L2.V} {kws : List (Str × L2.V)} {f : Addr} {fd fd' : FuncData} (F : L2.FunD K x q params body sc dvs kws f fd) (F' : L2.FunD K x q params body sc dvs kws f fd') : fd = fd' := by
  obtain ⟨_, _, _, _, _, _, _, _, _, _, _, a, _⟩ := F.ex
  obtain ⟨_, _, _, _, _, _, _, _, _, _, _, b, _⟩ := F'.ex
  rw [a] at b
  cases b
  rfl
end Dp
set_option Elab.async false
set_option linter.all false
set_option maxRecDepth 100000
set_option maxHeartbeats 200000
namespace K01
open PySem PySem.Spec PyProof.Rows L2 Dp
/-! the defs of the text, in the small language -/
def top (i : Nat) : Stmt := PySem.Challenge.pw_sitebooks_k01_names.main.body.getD i (.Pass ⟨0, 0, 0, 0⟩)
def d_0 : Fd := ⟨1, 2, [
  .if_ (.or (.no (.pr .isi [.va 0, .co (.ty "str")])) (.no (.ch .le .le (.co (.int 1)) (.pr .len [.va 0]) (.co (.int 8))))) [.rt (.co (.bl false))] [],
  .rt (.an (.pr (.op .isin) [.pr .ix [.va 0, .co (.int 0)], .co (.str "abcdefghijklmnopqrstuvwxyz")]) (.pr .all [.lc (.v 1) [1] 0 (.va 0) (.co .non) [] (.pr (.op .isin) [.va 1, .co (.str "abcdefghijklmnopqrstuvwxyz0123456789")])]))]⟩
def d_1 : Fd := ⟨2, 5, [
  .if_ (.pr (.op .lt) [.va 1, .pr .len [.va 0]]) [.rt (.pr .int [.pr .ix [.va 0, .va 1]])] [],
  .as 2 (.pr (.op .add) [.co (.int 70003), .pr (.op .mul) [.pr (.op .mul) [.co (.int 6133), .pr (.op .add) [.va 1, .co (.int 1)]], .pr (.op .add) [.va 1, .co (.int 2)]]]),
  .for_ (.v 3) 0 (.pr (.sl false true) [.va 0, .co (.int 5)]) (.co .non) [.as 4 (.pr (.op .mul) [.pr (.op .mod) [.pr .int [.va 3], .co (.int 1000033)], .pr (.op .add) [.pr (.op .mul) [.co (.int 2), .va 1], .co (.int 3)]]), .as 2 (.pr (.op .mod) [.pr .int [.pr (.op .add) [.pr (.op .add) [.pr (.op .mul) [.va 2, .co (.int 40127)], .va 4], .co (.int 59)]], .co (.int 2147483549)])],
  .rt (.va 2)]⟩
def d_2 : Fd := ⟨1, 2, [
  .as 1 (.if_ (.or (.pr (.op .lt) [.va 0, .co (.int 0)]) (.pr (.op .ge) [.va 0, .pr (.op .pow) [.co (.int 10), .co (.int 18)]])) (.pr .abs [.va 0]) (.co (.int 0))),
  .rt (.ce (.pr .lst [.va 1, .pr (.op .mod) [.pr .int [.va 0], .co (.int 2147483549)], .co (.int 0)]))]⟩
def d_3 : Fd := ⟨2, 5, [
  .sx (.va 0) (.co (.int 2)) (.pr (.op .add) [.pr .ix [.va 0, .co (.int 2)], .co (.int 1)]),
  .if_ (.pr (.op .gt) [.pr .ix [.va 0, .co (.int 0)], .co (.int 0)]) [.as 2 (.pr (.op .mod) [.pr .int [.pr .ix [.va 0, .co (.int 0)]], .va 1]), .sx (.va 0) (.co (.int 0)) (.pr (.op .fdv) [.pr .ix [.va 0, .co (.int 0)], .va 1]), .rt (.va 2)] [],
  .ap [3, 4] [.pr .int [.pr .ix [.va 0, .co (.int 1)]], .pr .int [.pr .ix [.va 0, .co (.int 2)]]],
  .as 3 (.pr (.op .mod) [.pr .int [.pr (.op .add) [.pr (.op .add) [.pr (.op .mul) [.va 3, .pr (.op .add) [.pr (.op .add) [.va 3, .co (.int 30011)], .pr (.op .mul) [.co (.int 2), .va 4]]], .pr (.op .mul) [.co (.int 92821), .va 4]], .co (.int 41)]], .co (.int 2147483549)]),
  .sx (.va 0) (.co (.int 1)) (.va 3),
  .rt (.pr (.op .mod) [.pr .int [.pr (.op .fdv) [.va 3, .co (.int 193)]], .va 1])]⟩
def d_4 : Fd := ⟨1, 3, [
  .if_ (.or (.no (.pr .isi [.va 0, .co (.ty "str")])) (.or (.pr (.op .eq) [.pr .len [.va 0], .co (.int 0)]) (.pr (.op .gt) [.pr .len [.va 0], .co (.int 8)]))) [.rt (.co (.bl false))] [],
  .as 1 (.co (.str "abcdefghijklmnopqrstuvwxyz")),
  .rt (.an (.pr (.op .isin) [.pr .ix [.va 0, .co (.int 0)], .va 1]) (.pr .all [.lc (.v 2) [2] 0 (.va 0) (.co .non) [] (.pr (.op .isin) [.va 2, .pr (.op .add) [.va 1, .co (.str "0123456789")]])]))]⟩
def d_5 : Fd := ⟨1, 4, [
  .ap [1, 2] [.fc 3 [.a 0, .a 1] [.va 0, .co (.int 4)], .co (.str "abcdefghijklmnopqrstuvwxyz0123456789")],
  .if_ (.pr (.op .lt) [.va 1, .co (.int 3)]) [.rt (.pr .ix [.va 2, .fc 3 [.a 0, .a 1] [.va 0, .pr .ix [.pr .lst [.co (.int 26), .co (.int 36), .co (.int 36)], .va 1]]])] [],
  .as 3 (.co (.str " !\"#$&'()*+,-./:;<=>?\x40[\\]^_`{|}~\nABCDEFGHIJKLMNOPQRSTUVWXYZ")),
  .rt (.pr .ix [.va 3, .fc 3 [.a 0, .a 1] [.va 0, .pr .len [.va 3]]])]⟩
def d_6 : Fd := ⟨2, 3, [
  .rt (.me .join "str" (.co (.str "")) [.lc (.v 2) [2] 1 (.va 1) (.co .non) [] (.fc 5 [.a 0] [.va 0])])]⟩
def d_7 : Fd := ⟨1, 4, [
  .ap [1, 2] [.co (.str "abcdefghijklmnopqrstuvwxyz0123456789"), .pr .ix [.pr .lst [.co (.int 0), .co (.int 1), .co (.int 6), .co (.int 7), .co (.int 7), .co (.int 3)], .fc 3 [.a 0, .a 1] [.va 0, .co (.int 6)]]],
  .rt (.pr (.op .add) [.pr .ix [.va 1, .fc 3 [.a 0, .a 1] [.va 0, .co (.int 26)]], .me .join "str" (.co (.str "")) [.lc (.v 3) [3] 1 (.va 2) (.co .non) [] (.pr .ix [.va 1, .fc 3 [.a 0, .a 1] [.va 0, .co (.int 36)]])]])]⟩
def d_8 : Fd := ⟨2, 5, [
  .ap [2, 3, 4] [.fc 3 [.a 0, .a 1] [.va 0, .co (.int 3)], .fc 3 [.a 0, .a 1] [.va 0, .pr (.op .add) [.pr .len [.va 1], .co (.int 1)]], .fc 5 [.a 0] [.va 0]],
  .rt (.pr (.op .add) [.pr (.op .add) [.pr (.sl false true) [.va 1, .va 3], .pr .ix [.pr .lst [.va 4, .co (.str ""), .va 4], .va 2]], .pr (.sl true false) [.va 1, .pr (.op .add) [.va 3, .pr .ix [.pr .lst [.co (.int 0), .co (.int 1), .co (.int 1)], .va 2]]]])]⟩
def d_9 : Fd := ⟨1, 9, [
  .for_ (.v 1) 1 (.pr .max [.co (.int 3), .pr .min [.pr .len [.va 0], .co (.int 6)]]) (.co .non) [.ap [2, 3] [.fc 2 [.a 0] [.fc 1 [.a 0, .a 1] [.va 0, .va 1]], .ce (.pr .lst [])], .for_ (.v 4) 1 (.co (.int 4)) (.co .non) [.as 5 (.fc 7 [.a 0] [.va 2]), .as 6 (.pr .lst [.co .non, .co (.bl true), .co (.bl false), .co (.int 0), .co (.int 1), .pr .neg [.co (.int 7)], .pr (.op .pow) [.co (.int 10), .co (.int 39)], .pr .tup [.va 5], .pr .lst [.va 5], .d1 (.va 5) (.co (.int 1)), .pr .tup [], .pr .lst [], .pr .dic []]), .as 6 (.pr (.op .add) [.va 6, .pr .lst [.pr .lst [.pr .lst [.va 5]], .pr .tup [.va 5, .va 5]]]), .as 3 (.ce (.pr (.op .add) [.va 3, .pr .lst [.va 5, .fc 8 [.a 0, .a 1] [.va 2, .va 5], .fc 6 [.a 0, .a 1] [.va 2, .fc 3 [.a 0, .a 1] [.va 2, .co (.int 11)]]]])), .app (.va 3) (.pr .ix [.va 6, .fc 3 [.a 0, .a 1] [.va 2, .co (.int 15)]])], .for_ (.v 7) 0 (.pr (.op .add) [.va 3, .pr .rev [.va 3]]) (.co .non) [.if_ (.pr (.op .ne) [.pr .repr [.pr .lst [.fc 0 [.a 0] [.va 7], .fc 0 [.a 0] [.va 7]]], .pr .repr [.pr (.op .mul) [.pr .lst [.fc 4 [.a 0] [.va 7]], .co (.int 2)]]]) [.rt (.co (.bl false))] []]],
  .as 8 (.lc (.v 5) [5] 0 (.pr .lst [.co (.str ""), .co (.str "7a"), .co (.str "abcdefghi"), .co (.str "a b"), .co (.str "aB"), .co (.str "a\n"), .co (.str "a"), .co (.str "a7"), .co (.str "abcdefgh")]) (.co .non) [] (.fc 0 [.a 0] [.va 5])),
  .rt (.pr (.op .eq) [.pr .repr [.va 8], .pr .repr [.pr (.op .add) [.pr (.op .mul) [.pr .lst [.co (.bl false)], .co (.int 6)], .pr (.op .mul) [.pr .lst [.co (.bl true)], .co (.int 3)]]]])]⟩
def e_0 : Fx := ⟨"is_name", top 4, ["value", "sign"], ["value"], d_0⟩
def e_1 : Fx := ⟨"_law_cell", top 6, ["script", "k", "number", "cell", "more"], ["script", "k"], d_1⟩
def e_2 : Fx := ⟨"_law_stock", top 7, ["cell", "great"], ["cell"], d_2⟩
def e_3 : Fx := ⟨"_law_take", top 8, ["stock", "many", "digit", "seed", "turn"], ["stock", "many"], d_3⟩
def e_4 : Fx := ⟨"_law_is_name", top 9, ["thing", "small", "sign"], ["thing"], d_4⟩
def e_5 : Fx := ⟨"_law_sign", top 10, ["stock", "way", "letters", "others"], ["stock"], d_5⟩
def e_6 : Fx := ⟨"_law_word", top 11, ["stock", "many", "k"], ["stock", "many"], d_6⟩
def e_7 : Fx := ⟨"_law_plain", top 12, ["stock", "letters", "more", "k"], ["stock"], d_7⟩
def e_8 : Fx := ⟨"_law_bent", top 13, ["stock", "word", "way", "at", "sign"], ["stock", "word"], d_8⟩
def e_9 : Fx := ⟨"law", top 14, ["script", "k", "stock", "things", "turn", "word", "menu", "thing", "seen"], ["script"], d_9⟩
def fx : List Fx := [e_0, e_1, e_2, e_3, e_4, e_5, e_6, e_7, e_8, e_9]
def gl : List (Str × Gv) := [("isinstance", .free), ("str", .free), ("len", .free), ("LONGEST", .c (.int 8)), ("LETTERS", .c (.str "abcdefghijklmnopqrstuvwxyz")), ("all", .free), ("SIGNS", .c (.str "abcdefghijklmnopqrstuvwxyz0123456789")), ("int", .free), ("abs", .free), ("range", .free), ("max", .free), ("min", .free), ("repr", .free)]
def ta : Tab := ⟨fun _ _ => false, fun _ _ => none, fun _ => none, 0⟩
section
variable {G : Gx} {cf : Cf} {W : WX} {X : Cx} {mg : Str → Option Value}
theorem bd_3_2_ {f : Addr} {fd : FuncData} (h : HasF G.K mg e_3 f fd) : BindOk G fd e_3.ps 2 [] [.a 0, .a 1] := bind_n h fun _ _ _ _ _ _ us ws hu hw => match us, ws, hu, hw with | [a0, a1], [], _, _ => ⟨[a0, a1], rfl, ⟨a0, _, rfl, rfl, ⟨a1, _, rfl, rfl, rfl⟩⟩⟩
theorem bd_5_1_ {f : Addr} {fd : FuncData} (h : HasF G.K mg e_5 f fd) : BindOk G fd e_5.ps 1 [] [.a 0] := bind_n h fun _ _ _ _ _ _ us ws hu hw => match us, ws, hu, hw with | [a0], [], _, _ => ⟨[a0], rfl, ⟨a0, _, rfl, rfl, rfl⟩⟩
theorem bd_1_2_ {f : Addr} {fd : FuncData} (h : HasF G.K mg e_1 f fd) : BindOk G fd e_1.ps 2 [] [.a 0, .a 1] := bind_n h fun _ _ _ _ _ _ us ws hu hw => match us, ws, hu, hw with | [a0, a1], [], _, _ => ⟨[a0, a1], rfl, ⟨a0, _, rfl, rfl, ⟨a1, _, rfl, rfl, rfl⟩⟩⟩
theorem bd_2_1_ {f : Addr} {fd : FuncData} (h : HasF G.K mg e_2 f fd) : BindOk G fd e_2.ps 1 [] [.a 0] := bind_n h fun _ _ _ _ _ _ us ws hu hw => match us, ws, hu, hw with | [a0], [], _, _ => ⟨[a0], rfl, ⟨a0, _, rfl, rfl, rfl⟩⟩
theorem bd_7_1_ {f : Addr} {fd : FuncData} (h : HasF G.K mg e_7 f fd) : BindOk G fd e_7.ps 1 [] [.a 0] := bind_n h fun _ _ _ _ _ _ us ws hu hw => match us, ws, hu, hw with | [a0], [], _, _ => ⟨[a0], rfl, ⟨a0, _, rfl, rfl, rfl⟩⟩
theorem bd_8_2_ {f : Addr} {fd : FuncData} (h : HasF G.K mg e_8 f fd) : BindOk G fd e_8.ps 2 [] [.a 0, .a 1] := bind_n h fun _ _ _ _ _ _ us ws hu hw => match us, ws, hu, hw with | [a0, a1], [], _, _ => ⟨[a0, a1], rfl, ⟨a0, _, rfl, rfl, ⟨a1, _, rfl, rfl, rfl⟩⟩⟩
theorem bd_6_2_ {f : Addr} {fd : FuncData} (h : HasF G.K mg e_6 f fd) : BindOk G fd e_6.ps 2 [] [.a 0, .a 1] := bind_n h fun _ _ _ _ _ _ us ws hu hw => match us, ws, hu, hw with | [a0, a1], [], _, _ => ⟨[a0, a1], rfl, ⟨a0, _, rfl, rfl, ⟨a1, _, rfl, rfl, rfl⟩⟩⟩
theorem bd_0_1_ {f : Addr} {fd : FuncData} (h : HasF G.K mg e_0 f fd) : BindOk G fd e_0.ps 1 [] [.a 0] := bind_n h fun _ _ _ _ _ _ us ws hu hw => match us, ws, hu, hw with | [a0], [], _, _ => ⟨[a0], rfl, ⟨a0, _, rfl, rfl, rfl⟩⟩
theorem bd_0_0_value {f : Addr} {fd : FuncData} (h : HasF G.K mg e_0 f fd) : BindOk G fd e_0.ps 0 ["value"] [.a 0] := bind_n h fun _ _ _ _ _ _ us ws hu hw => match us, ws, hu, hw with | [], [b0], _, _ => ⟨[b0], rfl, ⟨b0, _, rfl, rfl, rfl⟩⟩
theorem bd_4_1_ {f : Addr} {fd : FuncData} (h : HasF G.K mg e_4 f fd) : BindOk G fd e_4.ps 1 [] [.a 0] := bind_n h fun _ _ _ _ _ _ us ws hu hw => match us, ws, hu, hw with | [a0], [], _, _ => ⟨[a0], rfl, ⟨a0, _, rfl, rfl, rfl⟩⟩
theorem b_0 (C0 : Ctx G ta cf fx gl W e_0.N (defScope e_0.st) true X) : PSs X (defBody e_0.st) (TB_ G ta cf W e_0.fd.body) := by
  have v0_0 := fun {p : Pos} => C0.va (i := 0) (x := "value") (pos := p) (by decide +kernel)
  exact (b_cons (p_if ((t_or (t_not (t_plain C0.k (C0.bf 0 rfl (by decide +kernel) boot_isinstance cs_isi rfl rfl (s_cons v0_0 (s_cons (C0.ty 1 rfl (by decide +kernel) (by decide +kernel)) s_nil (fun _ _ => nofun)) (fun _ _ => nofun)) rfl rfl) (fun _ => rfl))) (pw_or1 (t_not (C0.tch ops_le ops_le m_le m_le c_int (C0.bf 2 rfl (by decide +kernel) boot_len cs_len rfl rfl (s_cons v0_0 s_nil (fun _ _ => nofun)) rfl rfl) (C0.gc 3 rfl (by decide +kernel)) rfl))))).pt (b_cons (p_ret c_bl)
    b_nil) b_nil)
    (b_cons (p_ret (s_and C0.k (s_cmp C0.k ops_in (s_ix C0.k v0_0 c_int rfl) (C0.gc 4 rfl (by decide +kernel)) rfl) (s_one (C0.bf 5 rfl (by decide +kernel) boot_all (cs_all C0.calm) rfl rfl (s_cons (dlc (C0.lc (ow := [("sign", 1)]) (pi_own C0.k v0_0) (by decide +kernel) (C0.ing (fun X1 C1 => (C1.gn (by decide +kernel)))) C0.int0 (C0.inb (fun X1 C1 => by have v1_1 := fun {p : Pos} => C1.va (i := 1) (x := "sign") (pos := p) (by decide +kernel); exact (s_cmp C1.k ops_in v1_1 (C1.gc 6 rfl (by decide +kernel)) rfl))) (fun _ => rfl) (by decide +kernel))) s_nil (fun _ _ => nofun)) rfl rfl))))
    b_nil))
theorem p_0 : Pf G ta fx gl e_0 := ⟨fs_ok (by decide +kernel), rfl, rfl, fun X cf W C => b_0 C⟩
theorem b_1 (C0 : Ctx G ta cf fx gl W e_1.N (defScope e_1.st) true X) : PSs X (defBody e_1.st) (TB_ G ta cf W e_1.fd.body) := by
  have v0_1 := fun {p : Pos} => C0.va (i := 1) (x := "k") (pos := p) (by decide +kernel)
  have v0_0 := fun {p : Pos} => C0.va (i := 0) (x := "script") (pos := p) (by decide +kernel)
  have v0_3 := fun {p : Pos} => C0.va (i := 3) (x := "cell") (pos := p) (by decide +kernel)
  have v0_2 := fun {p : Pos} => C0.va (i := 2) (x := "number") (pos := p) (by decide +kernel)
  have v0_4 := fun {p : Pos} => C0.va (i := 4) (x := "more") (pos := p) (by decide +kernel)
  exact (b_cons (p_if (t_cmp C0.k ops_lt m_lt v0_1 (C0.bf 2 rfl (by decide +kernel) boot_len cs_len rfl rfl (s_cons v0_0 s_nil (fun _ _ => nofun)) rfl rfl) rfl) (b_cons (p_ret (C0.bt 7 rfl (by decide +kernel) boot_int cs_int rfl rfl (s_cons (s_ix C0.k v0_0 v0_1 rfl) s_nil (fun _ _ => nofun)) rfl rfl))
    b_nil) b_nil)
    (b_cons (C0.as (by decide +kernel) (s_op C0.k ops_add c_int (s_op C0.k ops_mul (s_op C0.k ops_mul c_int (s_op C0.k ops_add v0_1 c_int)) (s_op C0.k ops_add v0_1 c_int))) rfl)
    (b_cons (p_for C0.pass C0.calm (pi_own C0.k (s_sl01 C0.k v0_0 c_int)) (C0.gn (by decide +kernel)) (b_cons (C0.as (by decide +kernel) (s_op C0.k ops_mul (s_op C0.k ops_mod (C0.bt 7 rfl (by decide +kernel) boot_int cs_int rfl rfl (s_cons v0_3 s_nil (fun _ _ => nofun)) rfl rfl) c_int) (s_op C0.k ops_add (s_op C0.k ops_mul c_int v0_1) c_int)) rfl)
    (b_cons (C0.as (by decide +kernel) (s_op C0.k ops_mod (C0.bt 7 rfl (by decide +kernel) boot_int cs_int rfl rfl (s_cons (s_op C0.k ops_add (s_op C0.k ops_add (s_op C0.k ops_mul v0_2 c_int) v0_4) c_int) s_nil (fun _ _ => nofun)) rfl rfl) c_int) rfl)
    b_nil)) (fun _ => rfl))
    (b_cons (p_ret v0_2)
    b_nil))))
theorem p_1 : Pf G ta fx gl e_1 := ⟨fs_ok (by decide +kernel), rfl, rfl, fun X cf W C => b_1 C⟩
theorem b_2 (C0 : Ctx G ta cf fx gl W e_2.N (defScope e_2.st) true X) : PSs X (defBody e_2.st) (TB_ G ta cf W e_2.fd.body) := by
  have v0_0 := fun {p : Pos} => C0.va (i := 0) (x := "cell") (pos := p) (by decide +kernel)
  have v0_1 := fun {p : Pos} => C0.va (i := 1) (x := "great") (pos := p) (by decide +kernel)
  exact (b_cons (C0.as (by decide +kernel) (s_if ((t_or (t_cmp C0.k ops_lt m_lt v0_0 c_int rfl) (pw_or1 (t_cmp C0.k ops_ge m_ge v0_0 (s_op C0.k ops_pow c_int c_int) rfl)))).pt (C0.bf 8 rfl (by decide +kernel) boot_abs cs_abs rfl rfl (s_cons v0_0 s_nil (fun _ _ => nofun)) rfl rfl) c_int) rfl)
    (b_cons (p_ret (s_cell (f_lst (s_cons v0_1 (s_cons (s_op C0.k ops_mod (C0.bt 7 rfl (by decide +kernel) boot_int cs_int rfl rfl (s_cons v0_0 s_nil (fun _ _ => nofun)) rfl rfl) c_int) (s_cons c_int s_nil (fun _ _ => nofun)) (fun _ _ => nofun)) (fun _ _ => nofun)))))
    b_nil))
theorem p_2 : Pf G ta fx gl e_2 := ⟨fs_ok (by decide +kernel), rfl, rfl, fun X cf W C => b_2 C⟩
theorem b_3 (C0 : Ctx G ta cf fx gl W e_3.N (defScope e_3.st) true X) : PSs X (defBody e_3.st) (TB_ G ta cf W e_3.fd.body) := by
  have v0_0 := fun {p : Pos} => C0.va (i := 0) (x := "stock") (pos := p) (by decide +kernel)
  have v0_1 := fun {p : Pos} => C0.va (i := 1) (x := "many") (pos := p) (by decide +kernel)
  have v0_2 := fun {p : Pos} => C0.va (i := 2) (x := "digit") (pos := p) (by decide +kernel)
  have v0_3 := fun {p : Pos} => C0.va (i := 3) (x := "seed") (pos := p) (by decide +kernel)
  have v0_4 := fun {p : Pos} => C0.va (i := 4) (x := "turn") (pos := p) (by decide +kernel)
  exact (b_cons (p_sx v0_0 c_int (s_op C0.k ops_add (s_ix C0.k v0_0 c_int rfl) c_int) rfl (fun _ => rfl))
    (b_cons (p_if (t_cmp C0.k ops_gt m_gt (s_ix C0.k v0_0 c_int rfl) c_int rfl) (b_cons (C0.as (by decide +kernel) (s_op C0.k ops_mod (C0.bt 7 rfl (by decide +kernel) boot_int cs_int rfl rfl (s_cons (s_ix C0.k v0_0 c_int rfl) s_nil (fun _ _ => nofun)) rfl rfl) v0_1) rfl)
    (b_cons (p_sx v0_0 c_int (s_op C0.k ops_fdv (s_ix C0.k v0_0 c_int rfl) v0_1) rfl (fun _ => rfl))
    (b_cons (p_ret v0_2)
    b_nil))) b_nil)
    (b_cons (C0.ap2 (by decide +kernel) (by decide +kernel) (by decide +kernel) (by decide +kernel) (by decide +kernel) (by decide) rfl rfl rfl rfl rfl (s_cons (C0.bt 7 rfl (by decide +kernel) boot_int cs_int rfl rfl (s_cons (s_ix C0.k v0_0 c_int rfl) s_nil (fun _ _ => nofun)) rfl rfl) (s_cons (C0.bt 7 rfl (by decide +kernel) boot_int cs_int rfl rfl (s_cons (s_ix C0.k v0_0 c_int rfl) s_nil (fun _ _ => nofun)) rfl rfl) s_nil (fun _ _ => nofun)) (fun _ _ => nofun)))
    (b_cons (C0.as (by decide +kernel) (s_op C0.k ops_mod (C0.bt 7 rfl (by decide +kernel) boot_int cs_int rfl rfl (s_cons (s_op C0.k ops_add (s_op C0.k ops_add (s_op C0.k ops_mul v0_3 (s_op C0.k ops_add (s_op C0.k ops_add v0_3 c_int) (s_op C0.k ops_mul c_int v0_4))) (s_op C0.k ops_mul c_int v0_4)) c_int) s_nil (fun _ _ => nofun)) rfl rfl) c_int) rfl)
    (b_cons (p_sx v0_0 c_int v0_3 rfl (fun _ => rfl))
    (b_cons (p_ret (s_op C0.k ops_mod (C0.bt 7 rfl (by decide +kernel) boot_int cs_int rfl rfl (s_cons (s_op C0.k ops_fdv v0_3 c_int) s_nil (fun _ _ => nofun)) rfl rfl) v0_1))
    b_nil))))))
theorem p_3 : Pf G ta fx gl e_3 := ⟨fs_ok (by decide +kernel), rfl, rfl, fun X cf W C => b_3 C⟩
theorem b_4 (C0 : Ctx G ta cf fx gl W e_4.N (defScope e_4.st) true X) : PSs X (defBody e_4.st) (TB_ G ta cf W e_4.fd.body) := by
  have v0_0 := fun {p : Pos} => C0.va (i := 0) (x := "thing") (pos := p) (by decide +kernel)
  have v0_1 := fun {p : Pos} => C0.va (i := 1) (x := "small") (pos := p) (by decide +kernel)
  exact (b_cons (p_if ((t_or (t_not (t_plain C0.k (C0.bf 0 rfl (by decide +kernel) boot_isinstance cs_isi rfl rfl (s_cons v0_0 (s_cons (C0.ty 1 rfl (by decide +kernel) (by decide +kernel)) s_nil (fun _ _ => nofun)) (fun _ _ => nofun)) rfl rfl) (fun _ => rfl))) (t_or (t_cmp C0.k (ops_eq C0.un) m_eq (C0.bf 2 rfl (by decide +kernel) boot_len cs_len rfl rfl (s_cons v0_0 s_nil (fun _ _ => nofun)) rfl rfl) c_int rfl) (pw_or1 (t_cmp C0.k ops_gt m_gt (C0.bf 2 rfl (by decide +kernel) boot_len cs_len rfl rfl (s_cons v0_0 s_nil (fun _ _ => nofun)) rfl rfl) c_int rfl))))).pt (b_cons (p_ret c_bl)
    b_nil) b_nil)
    (b_cons (C0.as (by decide +kernel) c_str rfl)
    (b_cons (p_ret (s_and C0.k (s_cmp C0.k ops_in (s_ix C0.k v0_0 c_int rfl) v0_1 rfl) (s_one (C0.bf 5 rfl (by decide +kernel) boot_all (cs_all C0.calm) rfl rfl (s_cons (dlc (C0.lc (ow := [("sign", 2)]) (pi_own C0.k v0_0) (by decide +kernel) (C0.ing (fun X1 C1 => (C1.gn (by decide +kernel)))) C0.int0 (C0.inb (fun X1 C1 => by have v1_2 := fun {p : Pos} => C1.va (i := 2) (x := "sign") (pos := p) (by decide +kernel); have v1_1 := fun {p : Pos} => C1.va (i := 1) (x := "small") (pos := p) (by decide +kernel); exact (s_cmp C1.k ops_in v1_2 (s_op C1.k ops_add v1_1 c_str) rfl))) (fun _ => rfl) (by decide +kernel))) s_nil (fun _ _ => nofun)) rfl rfl))))
    b_nil)))
theorem p_4 : Pf G ta fx gl e_4 := ⟨fs_ok (by decide +kernel), rfl, rfl, fun X cf W C => b_4 C⟩
theorem b_5 (C0 : Ctx G ta cf fx gl W e_5.N (defScope e_5.st) true X) : PSs X (defBody e_5.st) (TB_ G ta cf W e_5.fd.body) := by
  have v0_0 := fun {p : Pos} => C0.va (i := 0) (x := "stock") (pos := p) (by decide +kernel)
  have v0_1 := fun {p : Pos} => C0.va (i := 1) (x := "way") (pos := p) (by decide +kernel)
  have v0_2 := fun {p : Pos} => C0.va (i := 2) (x := "letters") (pos := p) (by decide +kernel)
  have v0_3 := fun {p : Pos} => C0.va (i := 3) (x := "others") (pos := p) (by decide +kernel)
  exact (b_cons (C0.ap2 (by decide +kernel) (by decide +kernel) (by decide +kernel) (by decide +kernel) (by decide +kernel) (by decide) rfl rfl rfl rfl rfl (s_cons (C0.fc (i := 3) (e := e_3) rfl (by decide +kernel) (fun _ _ h => bd_3_2_ h) (s_cons v0_0 (s_cons c_int s_nil (fun _ _ => nofun)) (fun _ _ => nofun)) k_nil rfl rfl rfl rfl rfl rfl rfl) (s_cons c_str s_nil (fun _ _ => nofun)) (fun _ _ => nofun)))
    (b_cons (p_if (t_cmp C0.k ops_lt m_lt v0_1 c_int rfl) (b_cons (p_ret (s_ix C0.k v0_2 (C0.fc (i := 3) (e := e_3) rfl (by decide +kernel) (fun _ _ h => bd_3_2_ h) (s_cons v0_0 (s_cons (s_ix C0.k (s_lst (s_cons c_int (s_cons c_int (s_cons c_int s_nil (fun _ _ => nofun)) (fun _ _ => nofun)) (fun _ _ => nofun))) v0_1 rfl) s_nil (fun _ _ => nofun)) (fun _ _ => nofun)) k_nil rfl rfl rfl rfl rfl rfl rfl) rfl))
    b_nil) b_nil)
    (b_cons (C0.as (by decide +kernel) c_str rfl)
    (b_cons (p_ret (s_ix C0.k v0_3 (C0.fc (i := 3) (e := e_3) rfl (by decide +kernel) (fun _ _ h => bd_3_2_ h) (s_cons v0_0 (s_cons (C0.bf 2 rfl (by decide +kernel) boot_len cs_len rfl rfl (s_cons v0_3 s_nil (fun _ _ => nofun)) rfl rfl) s_nil (fun _ _ => nofun)) (fun _ _ => nofun)) k_nil rfl rfl rfl rfl rfl rfl rfl) rfl))
    b_nil))))
theorem p_5 : Pf G ta fx gl e_5 := ⟨fs_ok (by decide +kernel), rfl, rfl, fun X cf W C => b_5 C⟩
theorem b_6 (C0 : Ctx G ta cf fx gl W e_6.N (defScope e_6.st) true X) : PSs X (defBody e_6.st) (TB_ G ta cf W e_6.fd.body) := by
  have v0_1 := fun {p : Pos} => C0.va (i := 1) (x := "many") (pos := p) (by decide +kernel)
  exact (b_cons (p_ret (s_join C0.k c_str (dlc (C0.lc (ow := [("k", 2)]) (C0.r1 9 rfl (by decide +kernel) (s_cons v0_1 s_nil (fun _ _ => nofun)) rfl) (by decide +kernel) (C0.ing (fun X1 C1 => (C1.gn (by decide +kernel)))) C0.int0 (C0.inb (fun X1 C1 => by have v1_0 := fun {p : Pos} => C1.va (i := 0) (x := "stock") (pos := p) (by decide +kernel); exact (C1.fc (i := 5) (e := e_5) rfl (by decide +kernel) (fun _ _ h => bd_5_1_ h) (s_cons v1_0 s_nil (fun _ _ => nofun)) k_nil rfl rfl rfl rfl rfl rfl rfl))) (fun _ => rfl) (by decide +kernel))) rfl rfl rfl))
    b_nil)
theorem p_6 : Pf G ta fx gl e_6 := ⟨fs_ok (by decide +kernel), rfl, rfl, fun X cf W C => b_6 C⟩
theorem b_7 (C0 : Ctx G ta cf fx gl W e_7.N (defScope e_7.st) true X) : PSs X (defBody e_7.st) (TB_ G ta cf W e_7.fd.body) := by
  have v0_0 := fun {p : Pos} => C0.va (i := 0) (x := "stock") (pos := p) (by decide +kernel)
  have v0_1 := fun {p : Pos} => C0.va (i := 1) (x := "letters") (pos := p) (by decide +kernel)
  have v0_2 := fun {p : Pos} => C0.va (i := 2) (x := "more") (pos := p) (by decide +kernel)
  exact (b_cons (C0.apN (.cons (C0.nm (by decide +kernel)) (.cons (C0.nm (by decide +kernel)) .nil)) (s_cons c_str (s_cons (s_ix C0.k (s_lst (s_cons c_int (s_cons c_int (s_cons c_int (s_cons c_int (s_cons c_int (s_cons c_int s_nil (fun _ _ => nofun)) (fun _ _ => nofun)) (fun _ _ => nofun)) (fun _ _ => nofun)) (fun _ _ => nofun)) (fun _ _ => nofun))) (C0.fc (i := 3) (e := e_3) rfl (by decide +kernel) (fun _ _ h => bd_3_2_ h) (s_cons v0_0 (s_cons c_int s_nil (fun _ _ => nofun)) (fun _ _ => nofun)) k_nil rfl rfl rfl rfl rfl rfl rfl) rfl) s_nil (fun _ _ => nofun)) (fun _ _ => nofun)) (by decide) (C0.swn2 (by decide +kernel)))
    (b_cons (p_ret (s_op C0.k ops_add (s_ix C0.k v0_1 (C0.fc (i := 3) (e := e_3) rfl (by decide +kernel) (fun _ _ h => bd_3_2_ h) (s_cons v0_0 (s_cons c_int s_nil (fun _ _ => nofun)) (fun _ _ => nofun)) k_nil rfl rfl rfl rfl rfl rfl rfl) rfl) (s_join C0.k c_str (dlc (C0.lc (ow := [("k", 3)]) (C0.r1 9 rfl (by decide +kernel) (s_cons v0_2 s_nil (fun _ _ => nofun)) rfl) (by decide +kernel) (C0.ing (fun X1 C1 => (C1.gn (by decide +kernel)))) C0.int0 (C0.inb (fun X1 C1 => by have v1_1 := fun {p : Pos} => C1.va (i := 1) (x := "letters") (pos := p) (by decide +kernel); have v1_0 := fun {p : Pos} => C1.va (i := 0) (x := "stock") (pos := p) (by decide +kernel); exact (s_ix C1.k v1_1 (C1.fc (i := 3) (e := e_3) rfl (by decide +kernel) (fun _ _ h => bd_3_2_ h) (s_cons v1_0 (s_cons c_int s_nil (fun _ _ => nofun)) (fun _ _ => nofun)) k_nil rfl rfl rfl rfl rfl rfl rfl) rfl))) (fun _ => rfl) (by decide +kernel))) rfl rfl rfl)))
    b_nil))
theorem p_7 : Pf G ta fx gl e_7 := ⟨fs_ok (by decide +kernel), rfl, rfl, fun X cf W C => b_7 C⟩
theorem b_8 (C0 : Ctx G ta cf fx gl W e_8.N (defScope e_8.st) true X) : PSs X (defBody e_8.st) (TB_ G ta cf W e_8.fd.body) := by
  have v0_0 := fun {p : Pos} => C0.va (i := 0) (x := "stock") (pos := p) (by decide +kernel)
  have v0_1 := fun {p : Pos} => C0.va (i := 1) (x := "word") (pos := p) (by decide +kernel)
  have v0_3 := fun {p : Pos} => C0.va (i := 3) (x := "at") (pos := p) (by decide +kernel)
  have v0_4 := fun {p : Pos} => C0.va (i := 4) (x := "sign") (pos := p) (by decide +kernel)
  have v0_2 := fun {p : Pos} => C0.va (i := 2) (x := "way") (pos := p) (by decide +kernel)
  exact (b_cons (C0.ap3 (by decide +kernel) (by decide +kernel) (by decide +kernel) (by decide +kernel) (by decide +kernel) (by decide +kernel) (by decide +kernel) (by decide +kernel) (by decide +kernel) (by decide) (by decide) (by decide) rfl rfl rfl rfl rfl rfl rfl (s_cons (C0.fc (i := 3) (e := e_3) rfl (by decide +kernel) (fun _ _ h => bd_3_2_ h) (s_cons v0_0 (s_cons c_int s_nil (fun _ _ => nofun)) (fun _ _ => nofun)) k_nil rfl rfl rfl rfl rfl rfl rfl) (s_cons (C0.fc (i := 3) (e := e_3) rfl (by decide +kernel) (fun _ _ h => bd_3_2_ h) (s_cons v0_0 (s_cons (s_op C0.k ops_add (C0.bf 2 rfl (by decide +kernel) boot_len cs_len rfl rfl (s_cons v0_1 s_nil (fun _ _ => nofun)) rfl rfl) c_int) s_nil (fun _ _ => nofun)) (fun _ _ => nofun)) k_nil rfl rfl rfl rfl rfl rfl rfl) (s_cons (C0.fc (i := 5) (e := e_5) rfl (by decide +kernel) (fun _ _ h => bd_5_1_ h) (s_cons v0_0 s_nil (fun _ _ => nofun)) k_nil rfl rfl rfl rfl rfl rfl rfl) s_nil (fun _ _ => nofun)) (fun _ _ => nofun)) (fun _ _ => nofun)))
    (b_cons (p_ret (s_op C0.k ops_add (s_op C0.k ops_add (s_sl01 C0.k v0_1 v0_3) (s_ix C0.k (s_lst (s_cons v0_4 (s_cons c_str (s_cons v0_4 s_nil (fun _ _ => nofun)) (fun _ _ => nofun)) (fun _ _ => nofun))) v0_2 rfl)) (s_sl10 C0.k v0_1 (s_op C0.k ops_add v0_3 (s_ix C0.k (s_lst (s_cons c_int (s_cons c_int (s_cons c_int s_nil (fun _ _ => nofun)) (fun _ _ => nofun)) (fun _ _ => nofun))) v0_2 rfl)))))
    b_nil))
theorem p_8 : Pf G ta fx gl e_8 := ⟨fs_ok (by decide +kernel), rfl, rfl, fun X cf W C => b_8 C⟩
theorem b_9 (C0 : Ctx G ta cf fx gl W e_9.N (defScope e_9.st) true X) : PSs X (defBody e_9.st) (TB_ G ta cf W e_9.fd.body) := by
  have v0_0 := fun {p : Pos} => C0.va (i := 0) (x := "script") (pos := p) (by decide +kernel)
  have v0_1 := fun {p : Pos} => C0.va (i := 1) (x := "k") (pos := p) (by decide +kernel)
  have v0_2 := fun {p : Pos} => C0.va (i := 2) (x := "stock") (pos := p) (by decide +kernel)
  have v0_5 := fun {p : Pos} => C0.va (i := 5) (x := "word") (pos := p) (by decide +kernel)
  have v0_6 := fun {p : Pos} => C0.va (i := 6) (x := "menu") (pos := p) (by decide +kernel)
  have v0_3 := fun {p : Pos} => C0.va (i := 3) (x := "things") (pos := p) (by decide +kernel)
  have v0_7 := fun {p : Pos} => C0.va (i := 7) (x := "thing") (pos := p) (by decide +kernel)
  have v0_8 := fun {p : Pos} => C0.va (i := 8) (x := "seen") (pos := p) (by decide +kernel)
  exact (b_cons (p_for C0.pass C0.calm (C0.r1 9 rfl (by decide +kernel) (s_cons (C0.bf 10 rfl (by decide +kernel) boot_max (cs_max C0.calm) rfl rfl (s_cons c_int (s_cons (C0.bf 11 rfl (by decide +kernel) boot_min (cs_min C0.calm) rfl rfl (s_cons (C0.bf 2 rfl (by decide +kernel) boot_len cs_len rfl rfl (s_cons v0_0 s_nil (fun _ _ => nofun)) rfl rfl) (s_cons c_int s_nil (fun _ _ => nofun)) (fun _ _ => nofun)) rfl rfl) s_nil (fun _ _ => nofun)) (fun _ _ => nofun)) rfl rfl) s_nil (fun _ _ => nofun)) rfl) (C0.gn (by decide +kernel)) (b_cons (C0.ap2 (by decide +kernel) (by decide +kernel) (by decide +kernel) (by decide +kernel) (by decide +kernel) (by decide) rfl rfl rfl rfl rfl (s_cons (C0.fc (i := 2) (e := e_2) rfl (by decide +kernel) (fun _ _ h => bd_2_1_ h) (s_cons (C0.fc (i := 1) (e := e_1) rfl (by decide +kernel) (fun _ _ h => bd_1_2_ h) (s_cons v0_0 (s_cons v0_1 s_nil (fun _ _ => nofun)) (fun _ _ => nofun)) k_nil rfl rfl rfl rfl rfl rfl rfl) s_nil (fun _ _ => nofun)) k_nil rfl rfl rfl rfl rfl rfl rfl) (s_cons (s_cell (f_lst s_nil)) s_nil (fun _ _ => nofun)) (fun _ _ => nofun)))
    (b_cons (p_for C0.pass C0.calm (C0.r1 9 rfl (by decide +kernel) (s_cons c_int s_nil (fun _ _ => nofun)) rfl) (C0.gn (by decide +kernel)) (b_cons (C0.as (by decide +kernel) (C0.fc (i := 7) (e := e_7) rfl (by decide +kernel) (fun _ _ h => bd_7_1_ h) (s_cons v0_2 s_nil (fun _ _ => nofun)) k_nil rfl rfl rfl rfl rfl rfl rfl) rfl)
    (b_cons (C0.as (by decide +kernel) (s_lst (s_cons c_non (s_cons c_bl (s_cons c_bl (s_cons c_int (s_cons c_int (s_cons (s_neg c_int) (s_cons (s_op C0.k ops_pow c_int c_int) (s_cons (s_tup (s_cons v0_5 s_nil (fun _ _ => nofun))) (s_cons (s_lst (s_cons v0_5 s_nil (fun _ _ => nofun))) (s_cons (s_dic1 v0_5 c_int) (s_cons (s_tup s_nil) (s_cons (s_lst s_nil) (s_cons s_dic0 s_nil (fun _ _ => nofun)) (fun _ _ => nofun)) (fun _ _ => nofun)) (fun _ _ => nofun)) (fun _ _ => nofun)) (fun _ _ => nofun)) (fun _ _ => nofun)) (fun _ _ => nofun)) (fun _ _ => nofun)) (fun _ _ => nofun)) (fun _ _ => nofun)) (fun _ _ => nofun)) (fun _ _ => nofun))) rfl)
    (b_cons (C0.as (by decide +kernel) (s_op C0.k ops_add v0_6 (s_lst (s_cons (s_lst (s_cons (s_lst (s_cons v0_5 s_nil (fun _ _ => nofun))) s_nil (fun _ _ => nofun))) (s_cons (s_tup (s_cons v0_5 (s_cons v0_5 s_nil (fun _ _ => nofun)) (fun _ _ => nofun))) s_nil (fun _ _ => nofun)) (fun _ _ => nofun)))) rfl)
    (b_cons (C0.as (by decide +kernel) (s_cell (f_add C0.k v0_3 (s_lst (s_cons v0_5 (s_cons (C0.fc (i := 8) (e := e_8) rfl (by decide +kernel) (fun _ _ h => bd_8_2_ h) (s_cons v0_2 (s_cons v0_5 s_nil (fun _ _ => nofun)) (fun _ _ => nofun)) k_nil rfl rfl rfl rfl rfl rfl rfl) (s_cons (C0.fc (i := 6) (e := e_6) rfl (by decide +kernel) (fun _ _ h => bd_6_2_ h) (s_cons v0_2 (s_cons (C0.fc (i := 3) (e := e_3) rfl (by decide +kernel) (fun _ _ h => bd_3_2_ h) (s_cons v0_2 (s_cons c_int s_nil (fun _ _ => nofun)) (fun _ _ => nofun)) k_nil rfl rfl rfl rfl rfl rfl rfl) s_nil (fun _ _ => nofun)) (fun _ _ => nofun)) k_nil rfl rfl rfl rfl rfl rfl rfl) s_nil (fun _ _ => nofun)) (fun _ _ => nofun)) (fun _ _ => nofun))))) rfl)
    (b_cons (p_app C0.k v0_3 (s_ix C0.k v0_6 (C0.fc (i := 3) (e := e_3) rfl (by decide +kernel) (fun _ _ h => bd_3_2_ h) (s_cons v0_2 (s_cons c_int s_nil (fun _ _ => nofun)) (fun _ _ => nofun)) k_nil rfl rfl rfl rfl rfl rfl rfl) rfl) rfl rfl rfl)
    b_nil))))) (fun _ => rfl))
    (b_cons (p_for C0.pass C0.calm (pi_own C0.k (s_op C0.k ops_add v0_3 (s_rev C0.k v0_3))) (C0.gn (by decide +kernel)) (b_cons (p_if (t_cmp C0.k (ops_ne C0.un) m_ne (C0.bf 12 rfl (by decide +kernel) boot_repr (cs_repr C0.quiet C0.un) rfl rfl (s_cons (s_lst (s_cons (C0.fc (i := 0) (e := e_0) rfl (by decide +kernel) (fun _ _ h => bd_0_1_ h) (s_cons v0_7 s_nil (fun _ _ => nofun)) k_nil rfl rfl rfl rfl rfl rfl rfl) (s_cons (C0.fc (i := 0) (e := e_0) rfl (by decide +kernel) (fun _ _ h => bd_0_0_value h) s_nil (k_cons v0_7 k_nil) rfl rfl rfl True.intro rfl rfl rfl) s_nil (fun _ _ => nofun)) (fun _ _ => nofun))) s_nil (fun _ _ => nofun)) rfl rfl) (C0.bf 12 rfl (by decide +kernel) boot_repr (cs_repr C0.quiet C0.un) rfl rfl (s_cons (s_op C0.k ops_mul (s_lst (s_cons (C0.fc (i := 4) (e := e_4) rfl (by decide +kernel) (fun _ _ h => bd_4_1_ h) (s_cons v0_7 s_nil (fun _ _ => nofun)) k_nil rfl rfl rfl rfl rfl rfl rfl) s_nil (fun _ _ => nofun))) c_int) s_nil (fun _ _ => nofun)) rfl rfl) rfl) (b_cons (p_ret c_bl)
    b_nil) b_nil)
    b_nil) (fun _ => rfl))
    b_nil))) (fun _ => rfl))
    (b_cons (C0.asl (by decide +kernel) (by decide +kernel) (ow := [("word", 5)]) (pi_own C0.k (s_lst (s_cons c_str (s_cons c_str (s_cons c_str (s_cons c_str (s_cons c_str (s_cons c_str (s_cons c_str (s_cons c_str (s_cons c_str s_nil (fun _ _ => nofun)) (fun _ _ => nofun)) (fun _ _ => nofun)) (fun _ _ => nofun)) (fun _ _ => nofun)) (fun _ _ => nofun)) (fun _ _ => nofun)) (fun _ _ => nofun)) (fun _ _ => nofun)))) (by decide +kernel) (C0.ing (fun X1 C1 => (C1.gn (by decide +kernel)))) C0.int0 (C0.inb (fun X1 C1 => by have v1_5 := fun {p : Pos} => C1.va (i := 5) (x := "word") (pos := p) (by decide +kernel); exact (C1.fc (i := 0) (e := e_0) rfl (by decide +kernel) (fun _ _ h => bd_0_1_ h) (s_cons v1_5 s_nil (fun _ _ => nofun)) k_nil rfl rfl rfl rfl rfl rfl rfl))) (fun _ => rfl) (by decide +kernel) rfl (by decide +kernel)).1
    (b_cons (p_ret (s_cmp C0.k (ops_eq C0.un) (C0.bf 12 rfl (by decide +kernel) boot_repr (cs_repr C0.quiet C0.un) rfl rfl (s_cons v0_8 s_nil (fun _ _ => nofun)) rfl rfl) (C0.bf 12 rfl (by decide +kernel) boot_repr (cs_repr C0.quiet C0.un) rfl rfl (s_cons (s_op C0.k ops_add (s_op C0.k ops_mul (s_lst (s_cons c_bl s_nil (fun _ _ => nofun))) c_int) (s_op C0.k ops_mul (s_lst (s_cons c_bl s_nil (fun _ _ => nofun))) c_int)) s_nil (fun _ _ => nofun)) rfl rfl) rfl))
    b_nil)))
theorem p_9 : Pf G ta fx gl e_9 := ⟨fs_ok (by decide +kernel), rfl, rfl, fun X cf W C => b_9 C⟩
theorem pf : ∀ e ∈ fx, Pf G ta fx gl e := by
  intro e he
  simp only [fx, List.mem_cons, List.not_mem_nil, or_false] at he
  rcases he with rfl | rfl | rfl | rfl | rfl | rfl | rfl | rfl | rfl | rfl
  · exact p_0
  · exact p_1
  · exact p_2
  · exact p_3
  · exact p_4
  · exact p_5
  · exact p_6
  · exact p_7
  · exact p_8
  · exact p_9
end
end K01
set_option Elab.async false
set_option linter.all false
set_option maxRecDepth 100000
set_option maxHeartbeats 200000
namespace K01
open PySem Dp

abbrev fs : List Fd := fx.map (·.fd)
theorem fs0 : fs[0]? = some d_0 := rfl
theorem fs1 : fs[1]? = some d_1 := rfl
theorem fs2 : fs[2]? = some d_2 := rfl
theorem fs3 : fs[3]? = some d_3 := rfl
theorem fs4 : fs[4]? = some d_4 := rfl
theorem fs5 : fs[5]? = some d_5 := rfl
theorem fs6 : fs[6]? = some d_6 := rfl
theorem fs7 : fs[7]? = some d_7 := rfl
theorem fs8 : fs[8]? = some d_8 := rfl
theorem fs9 : fs[9]? = some d_9 := rfl
theorem call_of {n f : Nat} {ds : List D} {st : So} {d : Fd} (h : fs[f]? = some d) (hl : ds.length = d.np) : callF ta fs (n + 1) f ds st = match evB ta (callF ta fs n) d.body (ds.map some ++ List.replicate (d.nl - d.np) none) st with
    | .nx _ st1 => .ok (.p .non) st1
    | .rt d st1 => .ok d st1
    | .ex c ns vs _ st1 => .ex c ns vs st1
    | _ => .bad := by
  show (match fs[f]? with
    | some d => runF ta (callF ta fs n) d ds st
    | none => .bad) = _
  rw [h]
  show (if ds.length = d.np then _ else _) = _
  exact (if_pos hl).trans rfl
/-! ### small things -/
theorem ix_l {l : List P} {i : Int} : ixP (.lst l) (.int i) = ixI l i := rfl
theorem ix_f {l : List P} {i : Int} : ixP (.fro l) (.int i) = ixI l i := rfl
theorem str_ix {s : Str} {d : Int} (h0 : 0 ≤ d) (h1 : d < s.length) (hb : s.length ≤ big) : ∃ c, ixP (.str s) (.int d) = some (.str ⟨#[c]⟩) := by
  show ∃ c, (if s.length ≤ big then (ixI s.cps.toList d).map fun c => P.str ⟨#[c]⟩ else none) = _
  rw [if_pos hb]
  have hs : s.cps.toList.length = s.length := by rw [Array.length_toList]; rfl
  have hl : d.toNat < s.cps.toList.length := by omega
  refine ⟨s.cps.toList[d.toNat], ?_⟩
  unfold ixI L2.atI L2.ixN
  rw [if_pos h0, if_pos (by omega)]
  show ((s.cps.toList)[d.toNat]?).map _ = _
  rw [List.getElem?_eq_getElem hl]
  rfl
theorem one_len (c : Nat) : (⟨#[c]⟩ : Str).length = 1 := rfl
theorem addI {i j : Int} : addP (.int i) (.int j) = some (.int (i + j)) := rfl
theorem len_p {s : Str} (h : s.length ≤ big) : lenP (.str s) = some (.int s.length) := if_pos h
theorem add_s {s t : Str} (h : s.length + t.length ≤ big) : addP (.str s) (.str t) = some (.str (s ++ t)) := if_pos h
theorem app_len (s t : Str) : (s ++ t).length = s.length + t.length := by
  show (s.cps ++ t.cps).size = _
  rw [Array.size_append]
  rfl
theorem take_ok {n : Nat} {a b c m : Int} (ha : 0 ≤ a) (hb : 0 ≤ b) (hb2 : b < 2 ^ 40) (hm : 0 < m) (hm2 : m < 2 ^ 60) :
    ∃ d a' b' c', callF ta fs (n + 1) 3 [.r 0, .p (.int m)] [.lst [.int a, .int b, .int c]] = .ok (.p (.int d)) [.lst [.int a', .int b', .int c']] ∧ 0 ≤ d ∧ d < m ∧ 0 ≤ a' ∧ 0 ≤ b' ∧ b' < 2 ^ 40 := by
  rw [call_of fs3 rfl]
  have hm3 : m < 1606938044258990275541962092341162602522202993782792835301376 := by omega
  by_cases h : 0 < a
  · refine ⟨a % m, a / m, b, c + 1, ?_, Int.emod_nonneg _ (by omega), Int.emod_lt_of_pos _ hm, Int.ediv_nonneg ha (by omega), hb, hb2⟩
    simp [d_3, Pr.keeps, views, view, prim, bin, un, op2, addP, ixI, L2.atI, L2.ixN, ix_l, ix_f, intP, sxF, toInt, mulP, truP, negP, minP, maxP, absP, setAll, apK, pures, lstP, tupP, dicP, h, hm, hm3]
  · have hb3 : b.natAbs < 18446744073709551616 := by omega
    refine ⟨(b * (b + 30011 + 2 * (c + 1)) + 92821 * (c + 1) + 41) % 2147483549 / 193 % m, a, (b * (b + 30011 + 2 * (c + 1)) + 92821 * (c + 1) + 41) % 2147483549, c + 1, ?_, Int.emod_nonneg _ (by omega), Int.emod_lt_of_pos _ hm, ha, by omega, by omega⟩
    simp [d_3, Pr.keeps, views, view, prim, bin, un, op2, addP, ixI, L2.atI, L2.ixN, ix_l, ix_f, intP, sxF, toInt, mulP, truP, negP, minP, maxP, absP, setAll, apK, pures, lstP, tupP, dicP, h, hm, hm3, hb3]
def Stk (x : Cl) : Prop := ∃ a b c : Int, x = .lst [.int a, .int b, .int c] ∧ 0 ≤ a ∧ 0 ≤ b ∧ b < 2 ^ 40
theorem Stk.nd {x : Cl} (h : Stk x) : x ≠ .dead := by
  obtain ⟨a, b, c, rfl, _⟩ := h
  intro q
  cases q
/-- one draw, by a cell of any store -/
theorem take_at {n c : Nat} {st : So} {x : Cl} {m : Int} (hx : st[c]? = some x) (hs : Stk x) (hm : 0 < m) (hm2 : m < 2 ^ 60) :
    ∃ d x', callD (callF ta fs (n + 1)) 3 [.r c, .p (.int m)] st = .ok (.p (.int d)) (st.set c x') ∧ Stk x' ∧ 0 ≤ d ∧ d < m := by
  obtain ⟨a, b, k, rfl, h1, h2, h3⟩ := hs
  obtain ⟨d, a', b', c', e, g1, g2, g3, g4, g5⟩ := take_ok (n := n) (c := k) h1 h2 h3 hm hm2
  exact ⟨d, _, call_one (ds := [.int m]) hx (by intro q; cases q) e, ⟨a', b', c', rfl, g3, g4, g5⟩, g1, g2⟩
theorem stock_ok {n : Nat} {v : Int} : ∃ x, callF ta fs (n + 1) 2 [.p (.int v)] [] = .ok (.r 0) [x] ∧ Stk x := by
  rw [call_of fs2 rfl]
  by_cases h2 : v < 0
  · refine ⟨.lst [.int (-v), .int (v % 2147483549), .int 0], ?_, _, _, _, rfl, by omega, by omega, by omega⟩
    simp [d_2, Pr.keeps, views, view, prim, bin, un, op2, addP, ixI, L2.atI, L2.ixN, ix_l, ix_f, intP, sxF, toInt, mulP, truP, negP, minP, maxP, absP, setAll, apK, pures, lstP, tupP, dicP, h2]
  · by_cases h3 : 1000000000000000000 ≤ v
    · refine ⟨.lst [.int v, .int (v % 2147483549), .int 0], ?_, _, _, _, rfl, by omega, by omega, by omega⟩
      simp [d_2, Pr.keeps, views, view, prim, bin, un, op2, addP, ixI, L2.atI, L2.ixN, ix_l, ix_f, intP, sxF, toInt, mulP, truP, negP, minP, maxP, absP, setAll, apK, pures, lstP, tupP, dicP, h2, h3]
    · refine ⟨.lst [.int 0, .int (v % 2147483549), .int 0], ?_, _, _, _, rfl, by omega, by omega, by omega⟩
      simp [d_2, Pr.keeps, views, view, prim, bin, un, op2, addP, ixI, L2.atI, L2.ixN, ix_l, ix_f, intP, sxF, toInt, mulP, truP, negP, minP, maxP, absP, setAll, apK, pures, lstP, tupP, dicP, h2, h3]
abbrev l36 : Str := "abcdefghijklmnopqrstuvwxyz0123456789"
abbrev l26 : Str := "abcdefghijklmnopqrstuvwxyz"
abbrev lo : Str := " !\"#$&'()*+,-./:;<=>?\x40[\\]^_`{|}~\nABCDEFGHIJKLMNOPQRSTUVWXYZ"
theorem n36 : l36.length = 36 := by decide +kernel
theorem n26 : l26.length = 26 := by decide +kernel
theorem no_ : lo.length = 59 := by decide +kernel
theorem sign_ok {n : Nat} {x : Cl} (hs : Stk x) : ∃ s x', callF ta fs (n + 2) 5 [.r 0] [x] = .ok (.p (.str s)) [x'] ∧ Stk x' ∧ s.length = 1 := by
  rw [call_of fs5 rfl]
  obtain ⟨w, x1, e1, s1, g1, g2⟩ := take_at (n := n) (c := 0) (st := [x]) (m := 4) rfl hs (by omega) (by omega)
  have lenO : lenP (.str lo) = some (.int 59) := by rw [len_p (by rw [no_]; decide), no_]; rfl
  by_cases h : w < 3
  · have hw : w = 0 ∨ w = 1 ∨ w = 2 := by omega
    rcases hw with rfl | rfl | rfl
    · obtain ⟨d, x2, e2, s2, k1, k2⟩ := take_at (n := n) (c := 0) (st := [x1]) (m := 26) rfl s1 (by omega) (by omega)
      obtain ⟨c, hc⟩ := str_ix (s := l36) (d := d) k1 (by rw [n36]; omega) (by rw [n36]; decide)
      refine ⟨_, x2, ?_, s2, one_len c⟩
      simp at e1 e2
      simp [d_5, Pr.keeps, views, view, prim, bin, un, op2, addP, ixI, L2.atI, L2.ixN, ix_l, ix_f, intP, sxF, toInt, mulP, truP, negP, minP, maxP, absP, setAll, apK, pures, lstP, tupP, dicP, ix_l, fcK, sels, e1, e2, hc]
    · obtain ⟨d, x2, e2, s2, k1, k2⟩ := take_at (n := n) (c := 0) (st := [x1]) (m := 36) rfl s1 (by omega) (by omega)
      obtain ⟨c, hc⟩ := str_ix (s := l36) (d := d) k1 (by rw [n36]; omega) (by rw [n36]; decide)
      refine ⟨_, x2, ?_, s2, one_len c⟩
      simp at e1 e2
      simp [d_5, Pr.keeps, views, view, prim, bin, un, op2, addP, ixI, L2.atI, L2.ixN, ix_l, ix_f, intP, sxF, toInt, mulP, truP, negP, minP, maxP, absP, setAll, apK, pures, lstP, tupP, dicP, ix_l, fcK, sels, e1, e2, hc]
    · obtain ⟨d, x2, e2, s2, k1, k2⟩ := take_at (n := n) (c := 0) (st := [x1]) (m := 36) rfl s1 (by omega) (by omega)
      obtain ⟨c, hc⟩ := str_ix (s := l36) (d := d) k1 (by rw [n36]; omega) (by rw [n36]; decide)
      refine ⟨_, x2, ?_, s2, one_len c⟩
      simp at e1 e2
      simp [d_5, Pr.keeps, views, view, prim, bin, un, op2, addP, ixI, L2.atI, L2.ixN, ix_l, ix_f, intP, sxF, toInt, mulP, truP, negP, minP, maxP, absP, setAll, apK, pures, lstP, tupP, dicP, ix_l, fcK, sels, e1, e2, hc]
  · obtain ⟨d, x2, e2, s2, k1, k2⟩ := take_at (n := n) (c := 0) (st := [x1]) (m := 59) rfl s1 (by omega) (by omega)
    obtain ⟨c, hc⟩ := str_ix (s := lo) (d := d) k1 (by rw [no_]; omega) (by rw [no_]; decide)
    refine ⟨_, x2, ?_, s2, one_len c⟩
    simp at e1 e2
    simp [d_5, Pr.keeps, views, view, prim, bin, un, op2, addP, ixI, L2.atI, L2.ixN, ix_l, ix_f, intP, sxF, toInt, mulP, truP, negP, minP, maxP, absP, setAll, apK, pures, lstP, tupP, dicP, ix_l, fcK, sels, e1, e2, h, lenO, hc]
/-- texts of a length -/
def Sl (k : Nat) (y : P) : Prop := ∃ s, y = .str s ∧ s.length ≤ k
theorem allStr_of {k : Nat} : ∀ {l : List P}, (∀ y ∈ l, Sl k y) → ∃ ss, allStr l = some ss ∧ ss.length = l.length ∧ (ss.map (·.length)).sum ≤ k * l.length
  | [], _ => ⟨[], rfl, rfl, Nat.le_refl _⟩
  | y :: l, h => by
    obtain ⟨s, rfl, hs⟩ := h y List.mem_cons_self
    obtain ⟨ss, h1, h2, h3⟩ := allStr_of (l := l) fun z hz => h z (List.mem_cons_of_mem _ hz)
    refine ⟨s :: ss, ?_, by rw [List.length_cons, List.length_cons, h2], ?_⟩
    · show (allStr l).map (s :: ·) = _
      rw [h1]
      rfl
    · rw [List.map_cons, List.sum_cons, List.length_cons, Nat.mul_succ]
      omega
theorem join_ok {k : Nat} {l : List P} (h : ∀ y ∈ l, Sl k y) (hk : k * l.length ≤ 1000) : ∃ s, joinP (.str "") (.lst l) = some (.str s) ∧ s.length ≤ k * l.length := by
  obtain ⟨ss, h1, h2, h3⟩ := allStr_of h
  have h0 : ("" : Str).length = 0 := by decide +kernel
  refine ⟨Txt.join "" ss, ?_, ?_⟩
  · show (allStr l).bind _ = _
    rw [h1]
    show (if _ then _ else _) = _
    rw [if_pos]
    rw [h0, Nat.mul_zero]
    unfold big
    omega
  · show (PySem.Builtin.Str.glued "" ss).length ≤ _
    rw [size_glued, h0, Nat.mul_zero]
    omega
theorem rng_in {z : P} : ∀ {n : Nat} {a : Int}, z ∈ rgI a n → ∃ i : Int, z = .int i ∧ a ≤ i ∧ i < a + n
  | 0, a, h => by cases h
  | n + 1, a, h => by
    rcases List.mem_cons.mp (show z ∈ P.int a :: rgI (a + 1) n from h) with rfl | h
    · exact ⟨a, rfl, by omega, by omega⟩
    · obtain ⟨i, e, h1, h2⟩ := rng_in h
      exact ⟨i, e, by omega, by omega⟩
theorem word_ok {n : Nat} {x : Cl} {k : Int} (hs : Stk x) (h0 : 0 ≤ k) (h1 : k ≤ 10) : ∃ s x', callF ta fs (n + 3) 6 [.r 0, .p (.int k)] [x] = .ok (.p (.str s)) [x'] ∧ Stk x' ∧ s.length ≤ 10 := by
  rw [call_of fs6 rfl]
  obtain ⟨r, st1, e, ⟨x', rfl, hx'⟩, hr, hl⟩ := lcL_inv (bd := lcB ta (callF ta fs (n + 2)) (.v 2) [2] [] (.fc 5 [.a 0] [.va 0]) [some (.r 0), some (.p (.int k)), none]) (fun st => ∃ x, st = [x] ∧ Stk x) (Sl 1) (rgI 0 k.toNat) [] [x] (fun z hz st ⟨y, e, hy⟩ => by
      subst e
      obtain ⟨s, y', e, hy', hl⟩ := sign_ok (n := n) hy
      have e1 := call_one (c := 0) (ds := []) (st := [y]) rfl hy.nd e
      simp [back, putAll] at e1
      refine ⟨.str s, [y'], ?_, ⟨s, rfl, by omega⟩, y', rfl, hy'⟩
      simp [lcB, asg, wip, fcK, sels, e1, bK, Ou.bind]) ⟨x, rfl, hs⟩ (fun y hy => by cases hy)
  rw [rgI_len] at hl
  obtain ⟨s, hj, hsl⟩ := join_ok hr (by rw [hl]; simp; omega)
  refine ⟨s, x', ?_, hx', by rw [hl] at hsl; simp at hsl; omega⟩
  have hk : k < 1099511627776 := by omega
  have hk2 : -1099511627776 < k := by omega
  have hb : k.toNat ≤ big := by unfold big; omega
  simp [d_6, Pr.keeps, views, view, prim, bin, un, op2, addP, ixI, L2.atI, L2.ixN, ix_l, ix_f, intP, sxF, toInt, mulP, truP, negP, minP, maxP, absP, setAll, apK, pures, lstP, tupP, dicP, itF, items, hk, hk2, rgI_len, hb, e, hj]
theorem plain_ok {n : Nat} {x : Cl} (hs : Stk x) : ∃ s x', callF ta fs (n + 3) 7 [.r 0] [x] = .ok (.p (.str s)) [x'] ∧ Stk x' ∧ s.length ≤ 8 := by
  rw [call_of fs7 rfl]
  obtain ⟨w, x1, e1, s1, g1, g2⟩ := take_at (n := n + 1) (c := 0) (st := [x]) (m := 6) rfl hs (by omega) (by omega)
  obtain ⟨d, x2, e2, s2, k1, k2⟩ := take_at (n := n + 1) (c := 0) (st := [x1]) (m := 26) rfl s1 (by omega) (by omega)
  obtain ⟨c, hc⟩ := str_ix (s := l36) (d := d) k1 (by rw [n36]; omega) (by rw [n36]; decide)
  simp at e1 e2
  have key : ∀ k : Int, 0 ≤ k → k ≤ 7 → ∃ r s x', lcL (lcB ta (callF ta fs (n + 2)) (.v 3) [3] [] (.pr .ix [.va 1, .fc 3 [.a 0, .a 1] [.va 0, .co (.int 36)]]) [some (.r 0), some (.p (.str l36)), some (.p (.int k)), none]) (rgI 0 k.toNat) [] [x2] = .ok (.p (.lst r)) [x'] ∧
      Stk x' ∧ joinP (.str "") (.lst r) = some (.str s) ∧ s.length ≤ 7 ∧ addP (.str ⟨#[c]⟩) (.str s) = some (.str (⟨#[c]⟩ ++ s)) := by
    intro k h0 h1
    obtain ⟨r, st1, e, ⟨x', rfl, hx'⟩, hr, hl⟩ := lcL_inv (bd := lcB ta (callF ta fs (n + 2)) (.v 3) [3] [] (.pr .ix [.va 1, .fc 3 [.a 0, .a 1] [.va 0, .co (.int 36)]]) [some (.r 0), some (.p (.str l36)), some (.p (.int k)), none]) (fun st => ∃ x, st = [x] ∧ Stk x) (Sl 1) (rgI 0 k.toNat) [] [x2] (fun z hz st ⟨y, e, hy⟩ => by
        subst e
        obtain ⟨d, y', e3, hy', q1, q2⟩ := take_at (n := n + 1) (c := 0) (st := [y]) (m := 36) rfl hy (by omega) (by omega)
        obtain ⟨c, hc⟩ := str_ix (s := l36) (d := d) q1 (by rw [n36]; omega) (by rw [n36]; decide)
        simp at e3
        refine ⟨.str ⟨#[c]⟩, [y'], ?_, ⟨_, rfl, Nat.le_refl _⟩, y', rfl, hy'⟩
        simp [lcB, asg, wip, fcK, sels, e3, bK, Ou.bind, Pr.keeps, views, view, prim, bin, un, op2, addP, ixI, L2.atI, L2.ixN, ix_l, ix_f, intP, sxF, toInt, mulP, truP, negP, minP, maxP, absP, setAll, apK, pures, lstP, tupP, dicP, hc]) ⟨x2, rfl, s2⟩ (fun y hy => by cases hy)
    rw [rgI_len] at hl
    simp at hl
    obtain ⟨s, hj, hsl⟩ := join_ok hr (by rw [hl]; omega)
    have hs7 : s.length ≤ 7 := by omega
    exact ⟨r, s, x', e, hx', hj, hs7, add_s (by rw [one_len]; unfold big; omega)⟩
  have fin : ∀ s : Str, s.length ≤ 7 → ((⟨#[c]⟩ : Str) ++ s).length ≤ 8 := fun s h => by
    rw [app_len, one_len]
    omega
  have hw : w = 0 ∨ w = 1 ∨ w = 2 ∨ w = 3 ∨ w = 4 ∨ w = 5 := by omega
  rcases hw with rfl | rfl | rfl | rfl | rfl | rfl
  · obtain ⟨r, s, x', e, h1, hj, hl, ha⟩ := key 0 (by omega) (by omega)
    refine ⟨_, x', ?_, h1, fin s hl⟩
    simp at e
    simp [d_7, Pr.keeps, views, view, prim, bin, un, op2, ixI, L2.atI, L2.ixN, ix_l, ix_f, intP, sxF, toInt, mulP, truP, negP, minP, maxP, absP, setAll, apK, pures, lstP, tupP, dicP, fcK, sels, e1, e2, hc, itF, items, rgI_len, big, e, hj, ha]
  · obtain ⟨r, s, x', e, h1, hj, hl, ha⟩ := key 1 (by omega) (by omega)
    refine ⟨_, x', ?_, h1, fin s hl⟩
    simp at e
    simp [d_7, Pr.keeps, views, view, prim, bin, un, op2, ixI, L2.atI, L2.ixN, ix_l, ix_f, intP, sxF, toInt, mulP, truP, negP, minP, maxP, absP, setAll, apK, pures, lstP, tupP, dicP, fcK, sels, e1, e2, hc, itF, items, rgI_len, big, e, hj, ha]
  · obtain ⟨r, s, x', e, h1, hj, hl, ha⟩ := key 6 (by omega) (by omega)
    refine ⟨_, x', ?_, h1, fin s hl⟩
    simp at e
    simp [d_7, Pr.keeps, views, view, prim, bin, un, op2, ixI, L2.atI, L2.ixN, ix_l, ix_f, intP, sxF, toInt, mulP, truP, negP, minP, maxP, absP, setAll, apK, pures, lstP, tupP, dicP, fcK, sels, e1, e2, hc, itF, items, rgI_len, big, e, hj, ha]
  · obtain ⟨r, s, x', e, h1, hj, hl, ha⟩ := key 7 (by omega) (by omega)
    refine ⟨_, x', ?_, h1, fin s hl⟩
    simp at e
    simp [d_7, Pr.keeps, views, view, prim, bin, un, op2, ixI, L2.atI, L2.ixN, ix_l, ix_f, intP, sxF, toInt, mulP, truP, negP, minP, maxP, absP, setAll, apK, pures, lstP, tupP, dicP, fcK, sels, e1, e2, hc, itF, items, rgI_len, big, e, hj, ha]
  · obtain ⟨r, s, x', e, h1, hj, hl, ha⟩ := key 7 (by omega) (by omega)
    refine ⟨_, x', ?_, h1, fin s hl⟩
    simp at e
    simp [d_7, Pr.keeps, views, view, prim, bin, un, op2, ixI, L2.atI, L2.ixN, ix_l, ix_f, intP, sxF, toInt, mulP, truP, negP, minP, maxP, absP, setAll, apK, pures, lstP, tupP, dicP, fcK, sels, e1, e2, hc, itF, items, rgI_len, big, e, hj, ha]
  · obtain ⟨r, s, x', e, h1, hj, hl, ha⟩ := key 3 (by omega) (by omega)
    refine ⟨_, x', ?_, h1, fin s hl⟩
    simp at e
    simp [d_7, Pr.keeps, views, view, prim, bin, un, op2, ixI, L2.atI, L2.ixN, ix_l, ix_f, intP, sxF, toInt, mulP, truP, negP, minP, maxP, absP, setAll, apK, pures, lstP, tupP, dicP, fcK, sels, e1, e2, hc, itF, items, rgI_len, big, e, hj, ha]
theorem cell_ok {n : Nat} {ns : List Int} {k : Int} (h0 : 0 ≤ k) (h1 : k < 100) : ∃ v : Int, callF ta fs (n + 1) 1 [.p (.fro (ns.map .int)), .p (.int k)] [] = .ok (.p (.int v)) [] := by
  rw [call_of fs1 rfl]
  by_cases h : k < (ns.length : Int)
  · have hl : k.toNat < ns.length := by omega
    refine ⟨ns[k.toNat], ?_⟩
    simp [d_1, Pr.keeps, views, view, prim, bin, un, op2, addP, ixI, L2.atI, L2.ixN, ix_l, ix_f, intP, sxF, toInt, mulP, truP, negP, minP, maxP, absP, setAll, apK, pures, lstP, tupP, dicP, lenP, h, h0, hl]
  · obtain ⟨ρ1, st1, e, o3, o4, v, e1, e2⟩ := forL_inv (bd := forB ta (callF ta fs n) (.v 3) [.as 4 (.pr (.op .mul) [.pr (.op .mod) [.pr .int [.va 3], .co (.int 1000033)], .pr (.op .add) [.pr (.op .mul) [.co (.int 2), .va 1], .co (.int 3)]]), .as 2 (.pr (.op .mod) [.pr .int [.pr (.op .add) [.pr (.op .add) [.pr (.op .mul) [.va 2, .co (.int 40127)], .va 4], .co (.int 59)]], .co (.int 2147483549)])])
      (fun ρ st => ∃ o3 o4 v, ρ = [some (.p (.fro (ns.map .int))), some (.p (.int k)), some (.p (.int v)), o3, o4] ∧ st = []) ((cut ns none (some 5)).map .int)
      [some (.p (.fro (ns.map .int))), some (.p (.int k)), some (.p (.int (70003 + 6133 * (k + 1) * (k + 2)))), none, none] [] (fun z hz ρ st ⟨o3, o4, v, e1, e2⟩ => by
        subst e1 e2
        obtain ⟨i, _, rfl⟩ := List.mem_map.mp hz
        have hb : (i % 1000033).natAbs < 18446744073709551616 := by omega
        refine ⟨[some (.p (.fro (ns.map .int))), some (.p (.int k)), some (.p (.int ((v * 40127 + i % 1000033 * (2 * k + 3) + 59) % 2147483549))), some (.p (.int i)), some (.p (.int (i % 1000033 * (2 * k + 3))))], [], ?_, _, _, _, rfl, rfl⟩
        simp [forB, asg, Pr.keeps, views, view, prim, bin, un, op2, addP, ixI, L2.atI, L2.ixN, ix_l, ix_f, intP, sxF, toInt, mulP, truP, negP, minP, maxP, absP, setAll, apK, pures, lstP, tupP, dicP, hb]) ⟨_, _, _, rfl, rfl⟩
    subst e1 e2
    refine ⟨v, ?_⟩
    have hb : (k + 1).natAbs < 18446744073709551616 := by omega
    have hc : cutP (.fro (ns.map P.int)) none (some 5) = some (.lst ((cut ns none (some 5)).map .int)) := by
      show some (P.lst (cut (ns.map P.int) none (some 5))) = _
      unfold cut
      rw [List.length_map, List.map_take, List.map_drop]
    have hl5 : (cut ns none (some 5)).length ≤ big := by
      unfold cut
      rw [List.length_take]
      refine Nat.le_trans (Nat.min_le_left _ _) ?_
      have : HT.sIx ns.length ns.length (some 5) ≤ 5 := Nat.min_le_left _ _
      unfold big
      omega
    have hb2 : (k + 2).natAbs < 18446744073709551616 := by omega
    simp [d_1, Pr.keeps, views, view, prim, bin, un, op2, addP, ixI, L2.atI, L2.ixN, ix_l, ix_f, intP, sxF, toInt, mulP, truP, negP, minP, maxP, absP, setAll, apK, pures, lstP, tupP, dicP, lenP, h, hb, hb2, slP, hc, itF, items, hl5, e]
/-! ### names -/
def nmL : List Nat → Bool
  | [] => false
  | c :: r => decide (c ∈ l26.cps.toList) && (c :: r).all fun c => decide (c ∈ l36.cps.toList)
def nm (s : Str) : Bool := decide (s.length ≤ 8) && nmL s.cps.toList
def nmP : P → Bool
  | .str s => nm s
  | _ => false
def okv (y : P) : Prop := (∃ s, y = .str s ∧ s.length ≤ 100) ∨ ∃ t, tyP y = some t ∧ t ≠ "str" ∧ t ∈ tyNames
theorem isi_s {s : Str} : isiP (.str s) (.ty "str") = some (.bl true) := by
  show (isiTy "str" "str").map P.bl = _
  rw [show isiTy "str" "str" = some true from by decide]
  rfl
theorem isi_n {y : P} {t : String} (h : tyP y = some t) (hn : t ≠ "str") (ht : t ∈ tyNames) : isiP y (.ty "str") = some (.bl false) := by
  show (tyP y).bind (fun t => (isiTy t "str").map P.bl) = _
  rw [h]
  show (isiTy t "str").map P.bl = _
  unfold isiTy
  rw [if_pos (by decide)]
  show some (P.bl (t == "str" || (t == "bool" && ("str" : String) == "int"))) = _
  rw [show (t == "str") = false from beq_eq_false_iff_ne.mpr hn]
  simp
theorem in_one {c : Nat} {t : Str} : inP (.str ⟨#[c]⟩) (.str t) = some (decide (c ∈ t.cps.toList)) := rfl
theorem all_of (p : Nat → Bool) : ∀ l : List Nat, allBl (l.map fun c => P.bl (p c)) = some (l.map p)
  | [] => rfl
  | c :: l => by
    show (allBl (l.map fun c => P.bl (p c))).map (p c :: ·) = _
    rw [all_of p l]
    rfl
theorem allP_of (p : Nat → Bool) (l : List Nat) : allP (.lst (l.map fun c => P.bl (p c))) = some (.bl (l.all p)) := by
  show (allBl (l.map fun c => P.bl (p c))).map (fun bs => P.bl (bs.all id)) = _
  rw [all_of]
  simp [List.all_map]
theorem ix_0 {s : Str} {c : Nat} {r : List Nat} (h : s.cps.toList = c :: r) (hb : s.length ≤ big) : ixP (.str s) (.int 0) = some (.str ⟨#[c]⟩) := by
  show (if s.length ≤ big then (ixI s.cps.toList 0).map fun c => P.str ⟨#[c]⟩ else none) = _
  rw [if_pos hb, h]
  simp [ixI, L2.atI, L2.ixN]
def hd1 : P → Nat
  | .str s => s.cps.toList.headD 0
  | _ => 0
theorem hd1_e {c : Nat} : hd1 (.str ⟨#[c]⟩) = c := rfl
theorem len_l {s : Str} : s.length = s.cps.toList.length := by rw [Array.length_toList]; rfl
theorem is_name_ok {n : Nat} {y : P} (h : okv y) : callF ta fs (n + 1) 0 [.p y] [] = .ok (.p (.bl (nmP y))) [] := by
  rw [call_of fs0 rfl]
  rcases h with ⟨s, rfl, hs⟩ | ⟨t, ht, hn, hm⟩
  · have hb : s.length ≤ big := by unfold big; omega
    have hl := len_l (s := s)
    have e := lcL_map (bd := lcB ta (callF ta fs n) (.v 1) [1] [] (.pr (.op .isin) [.va 1, .co (.str l36)]) [some (.p (.str s)), none]) (st := []) (f := fun y => .bl (decide (hd1 y ∈ l36.cps.toList))) (s.cps.toList.map fun c => .str ⟨#[c]⟩) [] (fun x hx => by
        obtain ⟨c, _, rfl⟩ := List.mem_map.mp hx
        simp [lcB, asg, wip, bK, Ou.bind, Pr.keeps, views, view, prim, bin, un, op2, addP, ixI, L2.atI, L2.ixN, ix_l, ix_f, intP, sxF, toInt, mulP, truP, negP, minP, maxP, absP, setAll, apK, pures, lstP, tupP, dicP, in_one, hd1_e])
    rw [List.map_map, List.nil_append] at e
    have fe : ((fun y => P.bl (decide (hd1 y ∈ l36.cps.toList))) ∘ fun c => P.str ⟨#[c]⟩) = fun c => P.bl (decide (c ∈ l36.cps.toList)) := rfl
    rw [fe] at e
    show _ = Ou.ok (D.p (P.bl (nm s))) []
    unfold nm
    cases hc : s.cps.toList with
    | nil =>
      rw [hc] at hl
      have h0 : s.length = 0 := hl
      simp [d_0, Pr.keeps, views, view, prim, bin, un, op2, addP, ixI, L2.atI, L2.ixN, ix_l, ix_f, intP, sxF, toInt, mulP, truP, negP, minP, maxP, absP, setAll, apK, pures, lstP, tupP, dicP, isi_s, len_p hb, h0, nmL]
    | cons c r =>
      rw [hc] at hl e
      rw [List.length_cons] at hl
      have h1 : (1 : Int) ≤ s.length := by omega
      by_cases h8 : s.length ≤ 8
      · have h8' : (s.length : Int) ≤ 8 := by omega
        simp at e
        have hA := allP_of (fun c => decide (c ∈ l36.cps)) (c :: r)
        simp at hA
        have hb' : r.length + 1 ≤ big := by omega
        by_cases hm : c ∈ l26.cps
        · simp [d_0, Pr.keeps, views, view, prim, bin, un, op2, addP, ixI, L2.atI, L2.ixN, ix_l, ix_f, intP, sxF, toInt, mulP, truP, negP, minP, maxP, absP, setAll, apK, pures, lstP, tupP, dicP, isi_s, len_p hb, h1, h8, h8', ix_0 hc hb, in_one, itF, items, hc, nmL, hb', hm, e, hA]
        · simp [d_0, Pr.keeps, views, view, prim, bin, un, op2, addP, ixI, L2.atI, L2.ixN, ix_l, ix_f, intP, sxF, toInt, mulP, truP, negP, minP, maxP, absP, setAll, apK, pures, lstP, tupP, dicP, isi_s, len_p hb, h1, h8, h8', ix_0 hc hb, in_one, itF, items, hc, nmL, hb', hm]
      · have h8' : ¬ (s.length : Int) ≤ 8 := by omega
        simp [d_0, Pr.keeps, views, view, prim, bin, un, op2, addP, ixI, L2.atI, L2.ixN, ix_l, ix_f, intP, sxF, toInt, mulP, truP, negP, minP, maxP, absP, setAll, apK, pures, lstP, tupP, dicP, isi_s, len_p hb, h1, h8, h8']
  · have e : nmP y = false := by
      cases y <;> first | rfl | (cases ht; exact absurd rfl hn)
    rw [e]
    simp [d_0, Pr.keeps, views, view, prim, bin, un, op2, addP, ixI, L2.atI, L2.ixN, ix_l, ix_f, intP, sxF, toInt, mulP, truP, negP, minP, maxP, absP, setAll, apK, pures, lstP, tupP, dicP, isi_n ht hn hm]
theorem eq_int {i j : Int} : eqP (.int i) (.int j) = some (decide (i = j)) := by
  show (if SeqAt.shaped (.int i) && SeqAt.shaped (.int j) then some (PyData.eqv (.int i) (.int j)) else none) = _
  rw [if_pos (show (SeqAt.shaped (.int i) && SeqAt.shaped (.int j)) = true from rfl)]
  congr 1
theorem cat36 : l26 ++ ("0123456789" : Str) = l36 := by decide +kernel
theorem add36 : addP (.str l26) (.str "0123456789") = some (.str l36) := by
  have n10 : ("0123456789" : Str).length = 10 := by decide +kernel
  rw [add_s (by rw [n26, n10]; decide), cat36]
theorem law_name_ok {n : Nat} {y : P} (h : okv y) : callF ta fs (n + 1) 4 [.p y] [] = .ok (.p (.bl (nmP y))) [] := by
  rw [call_of fs4 rfl]
  rcases h with ⟨s, rfl, hs⟩ | ⟨t, ht, hn, hm⟩
  · have hb : s.length ≤ big := by unfold big; omega
    have hl := len_l (s := s)
    have e := lcL_map (bd := lcB ta (callF ta fs n) (.v 2) [2] [] (.pr (.op .isin) [.va 2, .pr (.op .add) [.va 1, .co (.str "0123456789")]]) [some (.p (.str s)), some (.p (.str l26)), none]) (st := []) (f := fun y => .bl (decide (hd1 y ∈ l36.cps.toList))) (s.cps.toList.map fun c => .str ⟨#[c]⟩) [] (fun x hx => by
        obtain ⟨c, _, rfl⟩ := List.mem_map.mp hx
        simp [lcB, asg, wip, bK, Ou.bind, Pr.keeps, views, view, prim, bin, un, op2, ixI, L2.atI, L2.ixN, ix_l, ix_f, intP, sxF, toInt, mulP, truP, negP, minP, maxP, absP, setAll, apK, pures, lstP, tupP, dicP, add36, in_one, hd1_e])
    rw [List.map_map, List.nil_append] at e
    have fe : ((fun y => P.bl (decide (hd1 y ∈ l36.cps.toList))) ∘ fun c => P.str ⟨#[c]⟩) = fun c => P.bl (decide (c ∈ l36.cps.toList)) := rfl
    rw [fe] at e
    show _ = Ou.ok (D.p (P.bl (nm s))) []
    unfold nm
    cases hc : s.cps.toList with
    | nil =>
      rw [hc] at hl
      have h0 : s.length = 0 := hl
      have q0 : eqP (.int 0) (.int 0) = some true := by rfl
      simp [d_4, Pr.keeps, views, view, prim, bin, un, op2, addP, ixI, L2.atI, L2.ixN, ix_l, ix_f, intP, sxF, toInt, mulP, truP, negP, minP, maxP, absP, setAll, apK, pures, lstP, tupP, dicP, isi_s, len_p hb, h0, nmL, q0]
    | cons c r =>
      rw [hc] at hl e
      rw [List.length_cons] at hl
      have h0 : eqP (.int s.length) (.int 0) = some false := by
        rw [eq_int, decide_eq_false (by omega)]
      by_cases h8 : s.length ≤ 8
      · have h8' : ¬ 8 < (s.length : Int) := by omega
        simp at e
        have hA := allP_of (fun c => decide (c ∈ l36.cps)) (c :: r)
        simp at hA
        have hb' : r.length + 1 ≤ big := by omega
        by_cases hm : c ∈ l26.cps
        · simp [d_4, Pr.keeps, views, view, prim, bin, un, op2, addP, ixI, L2.atI, L2.ixN, ix_l, ix_f, intP, sxF, toInt, mulP, truP, negP, minP, maxP, absP, setAll, apK, pures, lstP, tupP, dicP, isi_s, len_p hb, h0, h8, h8', ix_0 hc hb, in_one, itF, items, hc, nmL, hb', hm, e, hA]
        · simp [d_4, Pr.keeps, views, view, prim, bin, un, op2, addP, ixI, L2.atI, L2.ixN, ix_l, ix_f, intP, sxF, toInt, mulP, truP, negP, minP, maxP, absP, setAll, apK, pures, lstP, tupP, dicP, isi_s, len_p hb, h0, h8, h8', ix_0 hc hb, in_one, itF, items, hc, nmL, hb', hm]
      · have h8' : 8 < (s.length : Int) := by omega
        simp [d_4, Pr.keeps, views, view, prim, bin, un, op2, addP, ixI, L2.atI, L2.ixN, ix_l, ix_f, intP, sxF, toInt, mulP, truP, negP, minP, maxP, absP, setAll, apK, pures, lstP, tupP, dicP, isi_s, len_p hb, h0, h8, h8']
  · have e : nmP y = false := by
      cases y <;> first | rfl | (cases ht; exact absurd rfl hn)
    rw [e]
    simp [d_4, Pr.keeps, views, view, prim, bin, un, op2, addP, ixI, L2.atI, L2.ixN, ix_l, ix_f, intP, sxF, toInt, mulP, truP, negP, minP, maxP, absP, setAll, apK, pures, lstP, tupP, dicP, isi_n ht hn hm]
/-! ### a bent word -/
theorem cut_len {s : Str} {lo hi : Option Int} (hb : s.length ≤ big) : ∃ t, cutP (.str s) lo hi = some (.str t) ∧ t.length ≤ s.length := by
  refine ⟨⟨(cut s.cps.toList lo hi).toArray⟩, if_pos hb, ?_⟩
  rw [len_l, len_l (s := s)]
  show (cut s.cps.toList lo hi).length ≤ _
  unfold cut
  rw [List.length_take, List.length_drop]
  omega
theorem bent_ok {n : Nat} {x : Cl} {w : Str} (hs : Stk x) (hw : w.length ≤ 8) : ∃ s x', callF ta fs (n + 3) 8 [.r 0, .p (.str w)] [x] = .ok (.p (.str s)) [x'] ∧ Stk x' ∧ s.length ≤ 17 := by
  rw [call_of fs8 rfl]
  have hb : w.length ≤ big := by unfold big; omega
  obtain ⟨a, x1, e1, s1, g1, g2⟩ := take_at (n := n + 1) (c := 0) (st := [x]) (m := 3) rfl hs (by omega) (by omega)
  obtain ⟨k, x2, e2, s2, k1, k2⟩ := take_at (n := n + 1) (c := 0) (st := [x1]) (m := w.length + 1) rfl s1 (by omega) (by omega)
  obtain ⟨g, x3, e3, s3, hg⟩ := sign_ok (n := n) s2
  have e3 := call_one (c := 0) (ds := []) (st := [x2]) rfl s2.nd e3
  simp [back, putAll] at e1 e2 e3
  obtain ⟨t1, c1, l1⟩ := cut_len (lo := none) (hi := some k) hb
  have h0 : ("" : Str).length = 0 := by decide +kernel
  have key : ∀ (z : Str) (d : Int), z.length ≤ 1 → ∃ t2, cutP (.str w) (some (k + d)) none = some (.str t2) ∧ addP (.str t1) (.str z) = some (.str (t1 ++ z)) ∧ addP (.str (t1 ++ z)) (.str t2) = some (.str (t1 ++ z ++ t2)) ∧ (t1 ++ z ++ t2).length ≤ 17 := by
    intro z d hz
    obtain ⟨t2, c2, l2⟩ := cut_len (lo := some (k + d)) (hi := none) hb
    refine ⟨t2, c2, add_s (by unfold big; omega), add_s (by rw [app_len]; unfold big; omega), ?_⟩
    rw [app_len, app_len]
    omega
  have ha : a = 0 ∨ a = 1 ∨ a = 2 := by omega
  rcases ha with rfl | rfl | rfl
  · obtain ⟨t2, c2, a1, a2, l2⟩ := key g 0 (by omega)
    refine ⟨_, x3, ?_, s3, l2⟩
    simp at c2
    simp [d_8, Pr.keeps, views, view, prim, bin, un, op2, ixI, L2.atI, L2.ixN, ix_l, ix_f, intP, sxF, toInt, mulP, truP, negP, minP, maxP, absP, setAll, apK, pures, lstP, tupP, dicP, addI, fcK, sels, e1, e2, e3, len_p hb, slP, c1, c2, a1, a2]
  · obtain ⟨t2, c2, a1, a2, l2⟩ := key "" 1 (by omega)
    refine ⟨_, x3, ?_, s3, l2⟩
    simp [d_8, Pr.keeps, views, view, prim, bin, un, op2, ixI, L2.atI, L2.ixN, ix_l, ix_f, intP, sxF, toInt, mulP, truP, negP, minP, maxP, absP, setAll, apK, pures, lstP, tupP, dicP, addI, fcK, sels, e1, e2, e3, len_p hb, slP, c1, c2, a1, a2]
  · obtain ⟨t2, c2, a1, a2, l2⟩ := key g 1 (by omega)
    refine ⟨_, x3, ?_, s3, l2⟩
    simp [d_8, Pr.keeps, views, view, prim, bin, un, op2, ixI, L2.atI, L2.ixN, ix_l, ix_f, intP, sxF, toInt, mulP, truP, negP, minP, maxP, absP, setAll, apK, pures, lstP, tupP, dicP, addI, fcK, sels, e1, e2, e3, len_p hb, slP, c1, c2, a1, a2]
end K01
set_option Elab.async false
set_option linter.all false
set_option maxRecDepth 100000
set_option maxHeartbeats 400000
namespace K01
open PySem Dp

/-! ### the law's def -/
theorem at_one {cf : Cf} {f c : Nat} {ds : List P} {st : So} {x x' : Cl} {v : P} (hx : st[c]? = some x) (hn : x ≠ .dead) (e : cf f (.r 0 :: ds.map .p) [x] = .ok (.p v) [x']) :
    ∃ st', callD cf f (.r c :: ds.map .p) st = .ok (.p v) st' ∧ st'[c]? = some x' ∧ (∀ j, j ≠ c → st'[j]? = st[j]?) ∧ st'.length = st.length := by
  refine ⟨st.set c x', call_one hx hn e, List.getElem?_set_self (ix_lt hx), fun j hj => List.getElem?_set_ne (Ne.symm hj), List.length_set ..⟩
def menuP (w : Str) : List P := [.non, .bl true, .bl false, .int 0, .int 1, .int (-7), .int (10 ^ 39), .tup [.str w], .lst [.str w], .dic [.str w] [.int 1], .tup [], .lst [], .dic [] [], .lst [.lst [.str w]], .tup [.str w, .str w]]
theorem menu_ok {w : Str} {y : P} (h : y ∈ menuP w) : okv y := by
  refine .inr ?_
  simp only [menuP, List.mem_cons, List.not_mem_nil, or_false] at h
  rcases h with rfl | rfl | rfl | rfl | rfl | rfl | rfl | rfl | rfl | rfl | rfl | rfl | rfl | rfl | rfl <;> exact ⟨_, rfl, by decide, by decide⟩
theorem menu_ix {w : Str} {d : Int} (h0 : 0 ≤ d) (h1 : d < 15) : ∃ y, ixI (menuP w) d = some y ∧ okv y := by
  have hl : d.toNat < (menuP w).length := by
    show d.toNat < 15
    omega
  refine ⟨(menuP w)[d.toNat], ?_, menu_ok (List.getElem_mem hl)⟩
  unfold ixI L2.atI L2.ixN
  rw [if_pos h0, if_pos (by show d < ((15 : Nat) : Int); omega)]
  exact List.getElem?_eq_getElem hl
abbrev turnB : List Sm := [.as 5 (.fc 7 [.a 0] [.va 2]), .as 6 (.pr .lst [.co .non, .co (.bl true), .co (.bl false), .co (.int 0), .co (.int 1), .pr .neg [.co (.int 7)], .pr (.op .pow) [.co (.int 10), .co (.int 39)], .pr .tup [.va 5], .pr .lst [.va 5], .d1 (.va 5) (.co (.int 1)), .pr .tup [], .pr .lst [], .pr .dic []]), .as 6 (.pr (.op .add) [.va 6, .pr .lst [.pr .lst [.pr .lst [.va 5]], .pr .tup [.va 5, .va 5]]]), .as 3 (.ce (.pr (.op .add) [.va 3, .pr .lst [.va 5, .fc 8 [.a 0, .a 1] [.va 2, .va 5], .fc 6 [.a 0, .a 1] [.va 2, .fc 3 [.a 0, .a 1] [.va 2, .co (.int 11)]]]])), .app (.va 3) (.pr .ix [.va 6, .fc 3 [.a 0, .a 1] [.va 2, .co (.int 15)]])]
theorem turn_ok {n i j : Nat} {x : Cl} {th : List P} {st : So} {v : P} {o0 o1 o4 o5 o6 o7 o8 : Option D} (hx : st[i]? = some x) (hs : Stk x) (hj : st[j]? = some (.lst th)) (hij : i ≠ j) (hth : ∀ y ∈ th, okv y) (hl : th.length ≤ 1000) :
    ∃ p4 p5 p6 j' x' th' st', forB ta (callF ta fs (n + 3)) (.v 4) turnB v [o0, o1, some (.r i), some (.r j), o4, o5, o6, o7, o8] st = .nx [o0, o1, some (.r i), some (.r j'), p4, p5, p6, o7, o8] st' ∧
      st'[i]? = some x' ∧ Stk x' ∧ st'[j']? = some (.lst th') ∧ i ≠ j' ∧ (∀ y ∈ th', okv y) ∧ th'.length ≤ th.length + 4 := by
  obtain ⟨w, x1, e, s1, lw⟩ := plain_ok (n := n) hs
  obtain ⟨st1, e1, i1, k1, l1⟩ := at_one (ds := []) hx hs.nd e
  clear e
  obtain ⟨b, x2, e, s2, lb⟩ := bent_ok (n := n) s1 lw
  obtain ⟨st2, e2, i2, k2, l2⟩ := at_one (ds := [.str w]) i1 s1.nd e
  clear e
  obtain ⟨d, x3, e3, s3, g1, g2⟩ := take_at (n := n + 2) (m := 11) i2 s2 (by omega) (by omega)
  generalize h3 : st2.set i x3 = st3 at e3
  have i3 : st3[i]? = some x3 := by rw [← h3]; exact List.getElem?_set_self (ix_lt i2)
  have k3 : ∀ j, j ≠ i → st3[j]? = st2[j]? := fun j hj => by rw [← h3]; exact List.getElem?_set_ne (Ne.symm hj)
  obtain ⟨q, x4, e, s4, lq⟩ := word_ok (n := n) s3 g1 (by omega)
  obtain ⟨st4, e4, i4, k4, l4⟩ := at_one (ds := [.int d]) i3 s3.nd e
  clear e
  have j4 : st4[j]? = some (.lst th) := by rw [k4 j hij.symm, k3 j hij.symm, k2 j hij.symm, k1 j hij.symm]; exact hj
  generalize h5 : st4 ++ [.lst (th ++ [.str w, .str b, .str q])] = st5
  have i5 : st5[i]? = some x4 := by rw [← h5, List.getElem?_append_left (ix_lt i4)]; exact i4
  have j5 : st5[st4.length]? = some (.lst (th ++ [.str w, .str b, .str q])) := by rw [← h5, List.getElem?_append_right (Nat.le_refl _), Nat.sub_self]; rfl
  obtain ⟨m, x5, e6, s5, q1, q2⟩ := take_at (n := n + 2) (m := 15) i5 s4 (by omega) (by omega)
  generalize h6 : st5.set i x5 = st6 at e6
  have ne : i ≠ st4.length := Nat.ne_of_lt (ix_lt i4)
  have i6 : st6[i]? = some x5 := by rw [← h6]; exact List.getElem?_set_self (ix_lt i5)
  have j6 : st6[st4.length]? = some (.lst (th ++ [.str w, .str b, .str q])) := by rw [← h6, List.getElem?_set_ne ne]; exact j5
  obtain ⟨y, hy, oy⟩ := menu_ix (w := w) q1 q2
  have hadd : addP (.lst th) (.lst [.str w, .str b, .str q]) = some (.lst (th ++ [.str w, .str b, .str q])) := if_pos (by simp; unfold big; omega)
  have hbig : (th ++ [P.str w, .str b, .str q]).length ≤ big := by simp; unfold big; omega
  have hmenu : addP (.lst [.non, .bl true, .bl false, .int 0, .int 1, .int (-7), .int 1000000000000000000000000000000000000000, .tup [.str w], .lst [.str w], .dic [.str w] [.int 1], .tup [], .lst [], .dic [] []]) (.lst [.lst [.lst [.str w]], .tup [.str w, .str w]]) = some (.lst (menuP w)) := by rfl
  simp at e1 e2 e4
  refine ⟨some (.p v), some (.p (.str w)), some (.p (.lst (menuP w))), st4.length, x5, th ++ [.str w, .str b, .str q] ++ [y], st6.set st4.length (.lst (th ++ [.str w, .str b, .str q] ++ [y])), ?_, ?_, s5, ?_, ne, ?_, ?_⟩
  · have hbig' : th.length + 3 ≤ big := by unfold big; omega
    simp [forB, asg, Pr.keeps, views, view, prim, bin, un, op2, ix_l, ix_f, intP, sxF, toInt, mulP, truP, negP, minP, maxP, absP, setAll, apK, pures, lstP, tupP, dicP, fcK, sels, e1, e2, e3, e4, e6, j4, hadd, h5, isLs, j5, j6, apF, hy, hmenu, hbig']
  · rw [List.getElem?_set_ne (Ne.symm ne)]
    exact i6
  · rw [List.getElem?_set_self (ix_lt j6)]
  · intro z hz
    simp only [List.mem_append, List.mem_cons, List.not_mem_nil, or_false] at hz
    rcases hz with (hz | rfl | rfl | rfl) | rfl
    · exact hth z hz
    · exact .inl ⟨w, rfl, by omega⟩
    · exact .inl ⟨b, rfl, by omega⟩
    · exact .inl ⟨q, rfl, by omega⟩
    · exact oy
  · simp
/-- what repr says of two like answers -/
theorem rep_of {l : List P} {d : PyData} (h : toD (.lst l) = some d) (hc : (d.showable && decide (d.depth ≤ 40) && decide (d.shown.length ≤ big) && !d.hasDict) = true) (h2 : SeqAt.shaped (.str d.shown) = true) (h3 : PyData.eqv (.str d.shown) (.str d.shown) = true) :
    reprP (.lst l) = some (.str d.shown) ∧ eqP (.str d.shown) (.str d.shown) = some true := by
  refine ⟨?_, ?_⟩
  · show (toD (.lst l)).bind shw = _
    rw [h]
    exact if_pos hc
  · show (if SeqAt.shaped (.str d.shown) && SeqAt.shaped (.str d.shown) then some (PyData.eqv (.str d.shown) (.str d.shown)) else none) = _
    rw [h2, h3]
    rfl
theorem rep_two (b : Bool) : ∃ s, reprP (.lst [.bl b, .bl b]) = some (.str s) ∧ eqP (.str s) (.str s) = some true := by
  cases b
  · exact ⟨_, rep_of (d := .list [.bool false, .bool false]) rfl (by decide +kernel) (by decide +kernel) (by decide +kernel)⟩
  · exact ⟨_, rep_of (d := .list [.bool true, .bool true]) rfl (by decide +kernel) (by decide +kernel) (by decide +kernel)⟩
abbrev checkB : List Sm := [.if_ (.pr (.op .ne) [.pr .repr [.pr .lst [.fc 0 [.a 0] [.va 7], .fc 0 [.a 0] [.va 7]]], .pr .repr [.pr (.op .mul) [.pr .lst [.fc 4 [.a 0] [.va 7]], .co (.int 2)]]]) [.rt (.co (.bl false))] []]
theorem check_ok {n : Nat} {y : P} {st : So} {o0 o1 o2 o3 o4 o5 o6 o7 o8 : Option D} (h : okv y) : forB ta (callF ta fs (n + 1)) (.v 7) checkB y [o0, o1, o2, o3, o4, o5, o6, o7, o8] st = .nx [o0, o1, o2, o3, o4, o5, o6, some (.p y), o8] st := by
  have e1 := call_pure (ds := [y]) (st := st) (is_name_ok (n := n) h)
  have e2 := call_pure (ds := [y]) (st := st) (law_name_ok (n := n) h)
  obtain ⟨s, r1, r2⟩ := rep_two (nmP y)
  simp [back, putAll] at e1 e2
  simp [forB, asg, Pr.keeps, views, view, prim, bin, un, op2, addP, ixI, L2.atI, L2.ixN, ix_l, ix_f, intP, sxF, toInt, mulP, truP, negP, minP, maxP, absP, setAll, apK, pures, lstP, tupP, dicP, fcK, sels, e1, e2, r1, r2]
theorem forL_ix {bd : P → En → So → SO} (I : Nat → En → So → Prop) : ∀ (l : List P) (k : Nat) (ρ : En) (st : So), (∀ i x, x ∈ l → i < k + l.length → ∀ ρ st, I i ρ st → ∃ ρ1 st1, bd x ρ st = .nx ρ1 st1 ∧ I (i + 1) ρ1 st1) → I k ρ st → ∃ ρ1 st1, forL bd l ρ st = .nx ρ1 st1 ∧ I (k + l.length) ρ1 st1
  | [], k, ρ, st, _, h => ⟨ρ, st, rfl, h⟩
  | x :: l, k, ρ, st, hb, h => by
    obtain ⟨ρ1, st1, e, h1⟩ := hb k x List.mem_cons_self (by rw [List.length_cons]; omega) ρ st h
    obtain ⟨ρ2, st2, e2, h2⟩ := forL_ix I l (k + 1) ρ1 st1 (fun i y hy hi => hb i y (List.mem_cons_of_mem _ hy) (by rw [List.length_cons]; omega)) h1
    refine ⟨ρ2, st2, by rw [forL, e]; exact e2, ?_⟩
    rw [List.length_cons, Nat.add_comm l.length, ← Nat.add_assoc]
    exact h2
abbrev roundB : List Sm := [.ap [2, 3] [.fc 2 [.a 0] [.fc 1 [.a 0, .a 1] [.va 0, .va 1]], .ce (.pr .lst [])], .for_ (.v 4) 1 (.co (.int 4)) (.co .non) turnB, .for_ (.v 7) 0 (.pr (.op .add) [.va 3, .pr .rev [.va 3]]) (.co .non) checkB]
theorem round_ok {n : Nat} {ns : List Int} {k : Int} {st : So} {o1 o2 o3 o4 o5 o6 o7 o8 : Option D} (h0 : 0 ≤ k) (h1 : k < 100) : ∃ p1 p2 p3 p4 p5 p6 p7 st', forB ta (callF ta fs (n + 3)) (.v 1) roundB (.int k) [some (.p (.fro (ns.map .int))), o1, o2, o3, o4, o5, o6, o7, o8] st = .nx [some (.p (.fro (ns.map .int))), p1, p2, p3, p4, p5, p6, p7, o8] st' := by
  obtain ⟨v, ev⟩ := cell_ok (n := n + 2) (ns := ns) h0 h1
  obtain ⟨x, ex, sx⟩ := stock_ok (n := n + 2) (v := v)
  have e1 := call_pure (ds := [.fro (ns.map .int), .int k]) (st := st) ev
  have e2 := call_pure (ds := [.int v]) (st := st) ex
  have e2' : callD (callF ta fs (n + 3)) 2 [.p (.int v)] st = .ok (.r st.length) (st ++ [x]) := by
    have hn := sx.nd
    obtain ⟨a, b, c, rfl, _⟩ := sx
    exact e2
  simp [back, putAll] at e1
  clear e2
  generalize hst : st ++ [x] ++ [Cl.lst []] = st1
  have hi : st1[st.length]? = some x := by
    rw [← hst, List.append_assoc, List.getElem?_append_right (Nat.le_refl _), Nat.sub_self]
    rfl
  have hj : st1[st.length + 1]? = some (.lst []) := by
    rw [← hst, List.getElem?_append_right (by simp)]
    simp
  obtain ⟨ρ2, st2, e3, p4, p5, p6, j', x', th, r2, r3, r4, r5, r6, r7, r8⟩ := forL_ix (bd := forB ta (callF ta fs (n + 3)) (.v 4) turnB) (fun m ρ st' => ∃ p4 p5 p6 j' x' th, ρ = [some (.p (.fro (ns.map .int))), some (.p (.int k)), some (.r st.length), some (.r j'), p4, p5, p6, o7, o8] ∧
      st'[st.length]? = some x' ∧ Stk x' ∧ st'[j']? = some (.lst th) ∧ st.length ≠ j' ∧ (∀ y ∈ th, okv y) ∧ th.length ≤ 4 * m) (rgI 0 4) 0 [some (.p (.fro (ns.map .int))), some (.p (.int k)), some (.r st.length), some (.r (st.length + 1)), o4, o5, o6, o7, o8] st1
    (fun m v hv hm ρ st' ⟨p4, p5, p6, j', x', th, r2, r3, r4, r5, r6, r7, r8⟩ => by
      subst r2
      have hm4 : m < 4 := by rw [rgI_len] at hm; omega
      obtain ⟨q4, q5, q6, j2, x2, th2, st2, e, t1, t2, t3, t4, t5, t6⟩ := turn_ok (n := n) (v := v) (o0 := some (.p (.fro (ns.map .int)))) (o1 := some (.p (.int k))) (o4 := p4) (o5 := p5) (o6 := p6) (o7 := o7) (o8 := o8) r3 r4 r5 r6 r7 (by omega)
      exact ⟨_, _, e, _, _, _, _, _, _, rfl, t1, t2, t3, t4, t5, by omega⟩) ⟨o4, o5, o6, _, x, [], rfl, hi, sx, hj, by omega, (fun y hy => by cases hy), by simp⟩
  obtain ⟨ρ3, st3, e4, q7, rfl, rfl⟩ := forL_inv (bd := forB ta (callF ta fs (n + 3)) (.v 7) checkB) (fun ρ st' => ∃ q7, ρ = [some (.p (.fro (ns.map .int))), some (.p (.int k)), some (.r st.length), some (.r j'), p4, p5, p6, q7, o8] ∧ st' = st2) (th ++ th.reverse) ρ2 st2
    (fun y hy ρ st' ⟨q7, e1, e2⟩ => by
      subst e1 e2
      have oy : okv y := by
        rcases List.mem_append.mp hy with hy | hy
        · exact r7 y hy
        · exact r7 y (List.mem_reverse.mp hy)
      exact ⟨_, _, check_ok (n := n + 2) oy, _, rfl, rfl⟩) ⟨o7, r2, rfl⟩
  subst r2
  refine ⟨some (.p (.int k)), some (.r st.length), some (.r j'), p4, p5, p6, q7, st3, ?_⟩
  have ht : th.length ≤ 16 := by rw [rgI_len] at r8; omega
  have hadd : addP (.lst th) (.lst th.reverse) = some (.lst (th ++ th.reverse)) := if_pos (by simp; unfold big; omega)
  have hb : th.length + th.length ≤ big := by unfold big; omega
  have h4 : 4 ≤ big := by decide
  have hst' : st ++ [x, Cl.lst []] = st1 := by rw [← hst]; simp
  simp [forB, asg, Pr.keeps, views, view, prim, bin, un, op2, ix_l, ix_f, intP, sxF, toInt, mulP, truP, negP, minP, maxP, absP, setAll, apK, pures, lstP, tupP, dicP, fcK, sels, e1, e2', itF, items, rgI_len, h4, hst', e3, r5, revP, hadd, hb, e4]
abbrev l9 : List P := [.str "", .str "7a", .str "abcdefghi", .str "a b", .str "aB", .str "a\n", .str "a", .str "a7", .str "abcdefgh"]
abbrev b9 : List P := [.bl false, .bl false, .bl false, .bl false, .bl false, .bl false, .bl true, .bl true, .bl true]
theorem nine : l9.map (fun y => P.bl (nmP y)) = b9 := by
  have h : l9.map nmP = [false, false, false, false, false, false, true, true, true] := by decide +kernel
  have : l9.map (fun y => P.bl (nmP y)) = (l9.map nmP).map P.bl := by rw [List.map_map]; rfl
  rw [this, h]
  rfl
theorem nine_ok : ∀ y ∈ l9, okv y := by
  intro y hy
  simp only [List.mem_cons, List.not_mem_nil, or_false] at hy
  rcases hy with rfl | rfl | rfl | rfl | rfl | rfl | rfl | rfl | rfl <;> exact .inl ⟨_, rfl, by decide +kernel⟩
theorem rep_nine : ∃ s, reprP (.lst b9) = some (.str s) ∧ eqP (.str s) (.str s) = some true :=
  ⟨_, rep_of (d := .list [.bool false, .bool false, .bool false, .bool false, .bool false, .bool false, .bool true, .bool true, .bool true]) rfl (by decide +kernel) (by decide +kernel) (by decide +kernel)⟩
theorem law_ok {n : Nat} {ns : List Int} (hl : ns.length ≤ 63) : ∃ st, callF ta fs (n + 4) 9 [.p (.fro (ns.map .int))] [] = .ok (.p (.bl true)) st := by
  rw [call_of fs9 rfl]
  obtain ⟨N, hN, h3, h6⟩ : ∃ N : Int, (if (if 6 < (ns.length : Int) then (6 : Int) else ns.length) > 3 then (if 6 < (ns.length : Int) then (6 : Int) else ns.length) else 3) = N ∧ 3 ≤ N ∧ N ≤ 6 := by
    refine ⟨_, rfl, ?_, ?_⟩
    · split <;> omega
    · split
      · split <;> omega
      · omega
  obtain ⟨ρ1, st1, e, p1, p2, p3, p4, p5, p6, p7, rfl⟩ := forL_inv (bd := forB ta (callF ta fs (n + 3)) (.v 1) roundB) (fun ρ st => ∃ p1 p2 p3 p4 p5 p6 p7, ρ = [some (.p (.fro (ns.map .int))), p1, p2, p3, p4, p5, p6, p7, none]) (rgI 0 N.toNat) [some (.p (.fro (ns.map .int))), none, none, none, none, none, none, none, none] []
    (fun z hz ρ st ⟨p1, p2, p3, p4, p5, p6, p7, e⟩ => by
      subst e
      obtain ⟨i, rfl, i0, i1⟩ := rng_in hz
      obtain ⟨q1, q2, q3, q4, q5, q6, q7, st', e⟩ := round_ok (n := n) (ns := ns) (k := i) (st := st) (o1 := p1) (o2 := p2) (o3 := p3) (o4 := p4) (o5 := p5) (o6 := p6) (o7 := p7) (o8 := none) i0 (by omega)
      exact ⟨_, _, e, _, _, _, _, _, _, _, rfl⟩) ⟨_, _, _, _, _, _, _, rfl⟩
  have e2 := lcL_map (bd := lcB ta (callF ta fs (n + 3)) (.v 5) [5] [] (.fc 0 [.a 0] [.va 5]) [some (.p (.fro (ns.map .int))), p1, p2, p3, p4, p5, p6, p7, none]) (st := st1) (f := fun y => .bl (nmP y)) l9 [] (fun y hy => by
    have e1 := call_pure (ds := [y]) (st := st1) (is_name_ok (n := n + 2) (nine_ok y hy))
    simp [back, putAll] at e1
    simp [lcB, asg, wip, bK, Ou.bind, Pr.keeps, views, view, prim, bin, un, op2, addP, ixI, L2.atI, L2.ixN, ix_l, ix_f, intP, sxF, toInt, mulP, truP, negP, minP, maxP, absP, setAll, apK, pures, lstP, tupP, dicP, fcK, sels, e1])
  rw [nine, List.nil_append] at e2
  obtain ⟨s, r1, r2⟩ := rep_nine
  refine ⟨st1, ?_⟩
  have hk : N < 1099511627776 := by omega
  have hk2 : -1099511627776 < N := by omega
  have hb : N.toNat ≤ big := by unfold big; omega
  have h9 : 9 ≤ big := by decide
  have hadd : addP (.lst [.bl false, .bl false, .bl false, .bl false, .bl false, .bl false]) (.lst [.bl true, .bl true, .bl true]) = some (.lst b9) := by rfl
  simp [d_9, Pr.keeps, views, view, prim, bin, un, op2, ix_l, ix_f, intP, sxF, toInt, mulP, truP, negP, minP, maxP, absP, setAll, apK, pures, lstP, tupP, dicP, lenP, hN, itF, items, rgI_len, hk, hk2, hb, e, h9, e2, r1, r2, hadd]
end K01
set_option Elab.async false
set_option linter.all false
set_option maxRecDepth 100000
set_option maxHeartbeats 200000
namespace K01
open PySem PySem.Spec PyProof.Rows L2 Dp
set_option maxHeartbeats 0
def q_0 : He.DefD := ⟨("is_name", none), "is_name", "is_name", defArgs (top 4), defBody (top 4), defScope (top 4), [], []⟩
def q_1 : He.DefD := ⟨("_law_cell", none), "_law_cell", "_law_cell", defArgs (top 6), defBody (top 6), defScope (top 6), [], []⟩
def q_2 : He.DefD := ⟨("_law_stock", none), "_law_stock", "_law_stock", defArgs (top 7), defBody (top 7), defScope (top 7), [], []⟩
def q_3 : He.DefD := ⟨("_law_take", none), "_law_take", "_law_take", defArgs (top 8), defBody (top 8), defScope (top 8), [], []⟩
def q_4 : He.DefD := ⟨("_law_is_name", none), "_law_is_name", "_law_is_name", defArgs (top 9), defBody (top 9), defScope (top 9), [], []⟩
def q_5 : He.DefD := ⟨("_law_sign", none), "_law_sign", "_law_sign", defArgs (top 10), defBody (top 10), defScope (top 10), [], []⟩
def q_6 : He.DefD := ⟨("_law_word", none), "_law_word", "_law_word", defArgs (top 11), defBody (top 11), defScope (top 11), [], []⟩
def q_7 : He.DefD := ⟨("_law_plain", none), "_law_plain", "_law_plain", defArgs (top 12), defBody (top 12), defScope (top 12), [], []⟩
def q_8 : He.DefD := ⟨("_law_bent", none), "_law_bent", "_law_bent", defArgs (top 13), defBody (top 13), defScope (top 13), [], []⟩
def q_9 : He.DefD := ⟨("law", none), "law", "law", defArgs (top 14), defBody (top 14), defScope (top 14), [], []⟩
def qs : List He.DefD := [q_0, q_1, q_2, q_3, q_4, q_5, q_6, q_7, q_8, q_9]
def fa : List He.Fa := [.free "isinstance", .free "str", .free "len", .int "LONGEST" 8, .str "LETTERS" "abcdefghijklmnopqrstuvwxyz", .free "all", .str "SIGNS" "abcdefghijklmnopqrstuvwxyz0123456789", .free "int", .free "abs", .free "range", .free "max", .free "min", .free "repr", .glo "is_name", .glo "_law_cell", .glo "_law_stock", .glo "_law_take", .glo "_law_is_name", .glo "_law_sign", .glo "_law_word", .glo "_law_plain", .glo "_law_bent", .glo "law"]
abbrev R : PySem.W.OpenRow := PySem.W.OpenLaw.row PySem.Challenge.rw_sitebooks_k01_names
abbrev hk : PySem.W.Hook := He.hookD 4 fa qs
def ob (s : PySem.W.SharedT) : He.AlD := He.obsDG 4 fa qs (HandSHeadRun.getT s)
theorem ob_eq (s : PySem.W.SharedT) : ob s = hk.obs s.abs := He.obsDG_eq (HandSHeadRun.getT_eq s)
def loose : List Str := ["LETTERS", "SIGNS", "LONGEST", "is_name", "_law_cell", "_law_stock", "_law_take", "_law_is_name", "_law_sign", "_law_word", "_law_plain", "_law_bent"]
theorem run (w : World) : HandSHeadRun.RunEq R (PySem.W.view R.prog [14]) hk ob 2000 loose w := by
  intro os
  kernel_rfl
abbrev GK (K : PySem.W.Frag) : Gx := ⟨K, fun _ => 0, fun _ => "", 0⟩
theorem gl_ok {K : PySem.W.Frag} {h : Heap} {mg : Str → Option Value} (inn : K.In h) (globs : h.Ns mainGlobals mg) (c : He.SaysD fa qs K) : ∀ p ∈ gl, GvOk (GK K) mg p.1 p.2 := by
  intro p hp
  simp only [gl, List.mem_cons, List.not_mem_nil, or_false] at hp
  rcases hp with rfl | rfl | rfl | rfl | rfl | rfl | rfl | rfl | rfl | rfl | rfl | rfl | rfl
  · exact He.free_ok inn globs (c.fact 0 (f := .free "isinstance") rfl)
  · exact He.free_ok inn globs (c.fact 1 (f := .free "str") rfl)
  · exact He.free_ok inn globs (c.fact 2 (f := .free "len") rfl)
  · obtain ⟨t, e⟩ := He.int_ok inn globs (c.fact 3 (f := .int "LONGEST" 8) rfl)
    exact ⟨.int 8, _, e, ⟨t, rfl⟩, fun _ _ => rfl⟩
  · obtain ⟨t, e⟩ := He.str_ok inn globs (c.fact 4 (f := .str "LETTERS" "abcdefghijklmnopqrstuvwxyz") rfl)
    exact ⟨.str "abcdefghijklmnopqrstuvwxyz", _, e, ⟨t, rfl⟩, fun _ _ => rfl⟩
  · exact He.free_ok inn globs (c.fact 5 (f := .free "all") rfl)
  · obtain ⟨t, e⟩ := He.str_ok inn globs (c.fact 6 (f := .str "SIGNS" "abcdefghijklmnopqrstuvwxyz0123456789") rfl)
    exact ⟨.str "abcdefghijklmnopqrstuvwxyz0123456789", _, e, ⟨t, rfl⟩, fun _ _ => rfl⟩
  · exact He.free_ok inn globs (c.fact 7 (f := .free "int") rfl)
  · exact He.free_ok inn globs (c.fact 8 (f := .free "abs") rfl)
  · exact He.free_ok inn globs (c.fact 9 (f := .free "range") rfl)
  · exact He.free_ok inn globs (c.fact 10 (f := .free "max") rfl)
  · exact He.free_ok inn globs (c.fact 11 (f := .free "min") rfl)
  · exact He.free_ok inn globs (c.fact 12 (f := .free "repr") rfl)
theorem fx_ok {K : PySem.W.Frag} {h : Heap} {mg : Str → Option Value} (inn : K.In h) (globs : h.Ns mainGlobals mg) (c : He.SaysD fa qs K) : ∀ e ∈ fx, ∃ f fd, HasF K mg e f fd := by
  intro e he
  simp only [fx, List.mem_cons, List.not_mem_nil, or_false] at he
  rcases he with rfl | rfl | rfl | rfl | rfl | rfl | rfl | rfl | rfl | rfl
  · obtain ⟨fd, F⟩ := c.def_ 0 (d := q_0) rfl
    exact ⟨_, fd, F, He.glo_ok inn globs (c.fact 13 (f := .glo "is_name") rfl)⟩
  · obtain ⟨fd, F⟩ := c.def_ 1 (d := q_1) rfl
    exact ⟨_, fd, F, He.glo_ok inn globs (c.fact 14 (f := .glo "_law_cell") rfl)⟩
  · obtain ⟨fd, F⟩ := c.def_ 2 (d := q_2) rfl
    exact ⟨_, fd, F, He.glo_ok inn globs (c.fact 15 (f := .glo "_law_stock") rfl)⟩
  · obtain ⟨fd, F⟩ := c.def_ 3 (d := q_3) rfl
    exact ⟨_, fd, F, He.glo_ok inn globs (c.fact 16 (f := .glo "_law_take") rfl)⟩
  · obtain ⟨fd, F⟩ := c.def_ 4 (d := q_4) rfl
    exact ⟨_, fd, F, He.glo_ok inn globs (c.fact 17 (f := .glo "_law_is_name") rfl)⟩
  · obtain ⟨fd, F⟩ := c.def_ 5 (d := q_5) rfl
    exact ⟨_, fd, F, He.glo_ok inn globs (c.fact 18 (f := .glo "_law_sign") rfl)⟩
  · obtain ⟨fd, F⟩ := c.def_ 6 (d := q_6) rfl
    exact ⟨_, fd, F, He.glo_ok inn globs (c.fact 19 (f := .glo "_law_word") rfl)⟩
  · obtain ⟨fd, F⟩ := c.def_ 7 (d := q_7) rfl
    exact ⟨_, fd, F, He.glo_ok inn globs (c.fact 20 (f := .glo "_law_plain") rfl)⟩
  · obtain ⟨fd, F⟩ := c.def_ 8 (d := q_8) rfl
    exact ⟨_, fd, F, He.glo_ok inn globs (c.fact 21 (f := .glo "_law_bent") rfl)⟩
  · obtain ⟨fd, F⟩ := c.def_ 9 (d := q_9) rfl
    exact ⟨_, fd, F, He.glo_ok inn globs (c.fact 22 (f := .glo "law") rfl)⟩
end K01
open PySem PySem.W PySem.Calls PyProof.Rows
theorem PySem.Challenge.cw_sitebooks_k01_names_holds : PySem.Challenge.rw_sitebooks_k01_names.Holds := by
  w_on; o_law
  refine HandSHeadRun.head_any (r := OpenLaw.row PySem.Challenge.rw_sitebooks_k01_names) (q := view (OpenLaw.row PySem.Challenge.rw_sitebooks_k01_names).prog [14]) (H := K01.hk) (ob := K01.ob) (M := 2000) (loose := K01.loose) (d := HandSHeadRun.topDef (OpenLaw.row PySem.Challenge.rw_sitebooks_k01_names).prog 14) (kwd := []) K01.ob_eq
    (by kernel_rfl) (fun s => by kernel_rfl) K01.run (by kernel_rfl) (by kernel_rfl) (by kernel_rfl) (by rfl) (by first | assumption | decide +kernel) (by decide +kernel) ⟨rfl, rfl, rfl, rfl, rfl, by decide +kernel⟩ ?hw ?hc
  case hw => w_witness2
  case hc =>
    refine Dp.walk_g (l := PySem.Challenge.rw_sitebooks_k01_names) (n := 63) (m := 8) (x := "script") rfl (by decide) (by kernel_rfl) ⟨rfl, by decide, by decide⟩ ?_
    intro w mg fa h Y globs isfa
    obtain ⟨K, inn, c⟩ := Y
    have isfa' : mg ("law" : PySem.Str) = some (.ref fa) := by
      rw [← isfa]
      congr 1
    obtain ⟨f, fd, F, hf⟩ := K01.fx_ok inn globs c K01.e_9 (by simp [K01.fx])
    have same : fa = f := by
      have q : mg ("law" : PySem.Str) = some (.ref f) := hf
      rw [isfa'] at q
      cases q
      rfl
    subst same
    refine ⟨K, fd, Dp.spD (K01.GK K) (Dp.callF K01.ta K01.fs 8) 9, inn, fun s u => ?_, fun H a ns hl hO hS => ?_, fun base _ bglobs => ?_⟩
    · exact (L2.FunD.bindsA (ps := ["script"]) F fun _ _ _ _ _ _ us hl => match us, hl with | [_], _ => rfl) s [u] rfl
    · obtain ⟨st, e⟩ := K01.law_ok (ns := ns) hl
      exact Dp.law_word (T := K01.ta) hS hO e
    · obtain ⟨f', fd', hf', G⟩ := Dp.all_ok (P := (PySem.Challenge.rw_sitebooks_k01_names).prog) (w := w) (base := base) (mg := mg) (G := K01.GK K) (T := K01.ta) (fx := K01.fx) (gl := K01.gl) rfl K01.pf (K01.fx_ok inn globs c) (K01.gl_ok inn globs c) 8 9 K01.e_9 rfl
      have q : mg ("law" : PySem.Str) = some (.ref f') := hf'.2
      rw [isfa'] at q
      cases q
      rw [Dp.same_fd F hf'.1]
      exact G
