import PyProof.Rows.All
import Wide.All
import OpenK.AllK
import Wide.FinOn
import HandS.ForMost
import HandS.ForExc
import KE.IntText
import HandS.Text
import HandS.ExcCtx
import HandS.ExcValue
import HandS.Wide
import HandS.WideBits
import HandS.Style
import HandS.Flow
import HandS.Deep
import HandS.TupAny
import HandS.TupMul
import PyProof.StrOps2
import HandS.Spec
import HandS.Small
import HandS.Conv
import HandS.TupLen
import KE.KDictPairs
import KE.KDictCopyH
import KE.KEqDict
import HandS.IsInst
import HandS.ExcIs
import HandS.WordsDict
import KE.KExcIs
import KE.DatumOrd
import HandS.Iter
import HandS.Zip
import HandS.TryOnly
import HandS.Comp
import HandS.ExcOwn
import HandS.ExcField
import KE.KDictZip
import KE.KDictItemsList
import HandS.Strs
import HandS.TupSets
import KE.SortData
import HandS.More
import HandS.ExcInit
import HandS.HeadHook4
import HandS.StrMore
import HandS.SuiteRaise
import HandS.ExcInitHot
import KE.KIndexOf
import KE.GoesRaise
import HandS.Defaults
import HandS.EndBits
import HandS.HeadEnd
import HandS.Head3
import HandS.Head4
import PySem.Challenge.RW_chalkline_k25_no_plan
set_option Elab.async false
set_option linter.all false
set_option autoImplicit false
set_option maxRecDepth 100000
set_option maxHeartbeats 0
namespace Fw
open PySem
inductive D where
  | non | bl (b : Bool) | int (i : Int) | str (l : List Nat)
  | tup (xs : List D) | lst (xs : List D)
  | ref (i : Nat) | exc (c : Nat) (fs : List D) | dic (ks vs : List D) | cls (c : Nat)
  deriving Inhabited
inductive DKd where | one | tup | two
  deriving Inhabited, DecidableEq
inductive MO where
  | lst (xs : List D) | dic (t : DKd) (ks vs : List D) | obj (c : Nat) (fs : List (Nat × D))
  | lck (ks vs : List D)
  deriving Inhabited
abbrev Hh := List MO
abbrev Sl := List (Option D)
inductive Out (α : Type) where
  | ok (a : α) (M : Hh) | exn (c : Nat) (fs : List D) (M : Hh) | bad
def Out.bind {α β : Type} (x : Out α) (f : α → Hh → Out β) : Out β := match x with
  | .ok a M => f a M
  | .exn c fs M => .exn c fs M
  | .bad => .bad
@[simp] theorem Out.bind_ok {α β : Type} (a : α) (M : Hh) (f : α → Hh → Out β) : (Out.ok a M).bind f = f a M := rfl
@[simp] theorem Out.bind_exn {α β : Type} (c : Nat) (fs : List D) (M : Hh) (f : α → Hh → Out β) : (Out.exn c fs M : Out α).bind f = .exn c fs M := rfl
@[simp] theorem Out.bind_bad {α β : Type} (f : α → Hh → Out β) : (Out.bad : Out α).bind f = .bad := rfl
def b2i (b : Bool) : Int := if b then 1 else 0
mutual
def eqD : D → D → Bool
  | .non, .non => true
  | .bl a, .bl b => a == b
  | .bl a, .int j => b2i a == j
  | .int i, .bl b => i == b2i b
  | .int i, .int j => i == j
  | .str x, .str y => x == y
  | .lst xs, .lst ys => eqL xs ys
  | .tup xs, .tup ys => eqL xs ys
  | _, _ => false
def eqL : List D → List D → Bool
  | [], [] => true
  | x :: xs, y :: ys => eqD x y && eqL xs ys
  | _, _ => false
end
mutual
def plain : Nat → D → Bool
  | _, .non => true
  | _, .bl _ => true
  | _, .int _ => true
  | _, .str _ => true
  | 0, _ => false
  | n + 1, .tup xs => plainL n xs
  | n + 1, .lst xs => plainL n xs
  | _ + 1, _ => false
def plainL : Nat → List D → Bool
  | _, [] => true
  | n, x :: xs => plain n x && plainL n xs
end
def snap (M : Hh) : Nat → D → D
  | 0, d => d
  | n + 1, .ref i => match M[i]? with
    | some (.lst xs) => .lst (xs.map (snap M n))
    | _ => .ref i
  | n + 1, .tup xs => .tup (xs.map (snap M n))
  | n + 1, .lst xs => .lst (xs.map (snap M n))
  | _ + 1, d => d
def dicOf (M : Hh) : D → Option (DKd × List D × List D)
  | .ref i => match M[i]? with
    | some (.dic t ks vs) => some (t, ks, vs)
    | _ => none
  | _ => none
def lookK (k : D) : List D → List D → Option D
  | a :: ks, v :: vs => if eqD a k then some v else lookK k ks vs
  | _, _ => none
def hitK (ls us : List D) : List D → List D → Bool
  | k :: ks, v :: vs => match lookK k ls us with
    | some y => eqD v y && hitK ls us ks vs
    | none => false
  | _, _ => true
def eqDic (M : Hh) (a b : D) : Option Bool := match dicOf M a, dicOf M b with
  | some (.one, ks, vs), some (.one, ls, us) => if plainL 12 (vs.map (snap M 12)) && plainL 12 (us.map (snap M 12)) then some (ks.length == ls.length && hitK ls (us.map (snap M 12)) ks (vs.map (snap M 12))) else none
  | _, _ => none
def eqM (M : Hh) (a b : D) : Option Bool :=
  if plain 12 (snap M 12 a) && plain 12 (snap M 12 b) then some (eqD (snap M 12 a) (snap M 12 b)) else if plain 20 (snap M 20 a) && plain 20 (snap M 20 b) then some (eqD (snap M 20 a) (snap M 20 b)) else eqDic M a b
def lstOf (M : Hh) : D → Option (List D)
  | .lst xs => some xs
  | .ref i => match M[i]? with
    | some (.lst xs) => some xs
    | _ => none
  | _ => none
def seqOf (M : Hh) : D → Option (List D)
  | .tup xs => some xs
  | .lst xs => some xs
  | .ref i => match M[i]? with
    | some (.lst xs) => some xs
    | _ => none
  | _ => none
def mkL (m : Bool) (xs : List D) (M : Hh) : Out D := if m then .ok (.ref M.length) (M ++ [.lst xs]) else .ok (.lst xs) M
inductive BOp where | add | sub | mul | fdiv | mod | pow | shr | band
inductive COp where | lt | le | gt | ge | eq | ne | is | isnot | in_ | notin
inductive Ty where | int | bool | str | list | tuple | dict | valErr | cls (c : Nat)
inductive Bi where
  | abs | max2 | min2 | maxl | minl | sum | all | len | int | str | list | tuple | sorted | dict | lenset
inductive Bm where
  | append | extend | pop | reverse | clear | index | get1 | get2 | dpop | update | setdefault | values | dclear
  | join | split | partition | startswith | bitlen | count | starts3 | tindex
inductive ItK where | seq | rng1 | rng2 | rng3 | enum | zip | tupc
inductive E where
  | var (i : Nat) | lit (d : D) | glo (k : Nat)
  | bin (m : Bool) (op : BOp) (a b : E) | neg (a : E) | not (a : E)
  | cmp (op : COp) (a b : E) | cmp2 (o1 o2 : COp) (a b c : E)
  | and (a b : E) | or (a b : E) | ite (c a b : E)
  | tup (es : List E) | lst (m : Bool) (es : List E) | idx (a b : E) | sl (m : Bool) (a lo hi : E)
  | call (p : Bool) (f : Nat) (es : List E) | new (c : Nat) (es : List E) | meth (m : Nat) (o : E) (es : List E)
  | bi (m : Bool) (b : Bi) (es : List E) | bm (m : Bool) (b : Bm) (o : E) (es : List E)
  | attr (o : E) (f : Nat) | isi (a : E) (ts : List Ty)
  | comp (m : Bool) (tg : List Nat) (k : ItK) (its : List E) (c : Option E) (e : E)
  | dict (t : DKd) (ks vs : List E)
  | rev (m : Bool) (a : E)
  | callA (f : Nat) (es : List E)
  | callS (f : Nat) (es : List E)
  | exv (c : Nat) (es : List E)
  | disp (ks : List D) (vs : List E)
  | lzip (m : Bool) (a b : E)
  | lens (a : E)
  | orv (a b : E)
  | dzip (a b : E)
  | compD (m : Bool) (tg : List Nat) (i : Nat) (c : Option E) (e : E)
  | tupC (es : List E)
  | idxL (a b : E)
  | callV (i : Nat) (fs : List Nat) (es : List E)
  | compX (m : Bool) (tg : List Nat) (k : ItK) (its : List E) (c : Option E) (e : E)
  | no
inductive T where
  | name (i : Nat) | names (l : Bool) (is : List Nat) | sub (o i : E) | fld (o : E) (f : Nat) | flds (i : Nat) (fs : List Nat)
inductive S where
  | asg (t : T) (e : E) | par (is : List Nat) (es : List E) | expr (e : E)
  | ite (c : E) (a b : List S) | whl (c : E) (b : List S)
  | loop (tg : List Nat) (k : ItK) (its : List E) (b : List S)
  | ret (e : E) | retN
  | retX (m : Bool) (tg : List Nat) (k : ItK) (its : List E) (e : E)
  | raise (c : Nat) (es : List E)
  | try_ (b : List S) (c : Nat) (slot : Option Nat) (h : List S)
  | tryR (b : List S) (c c2 : Nat) (es : List E)
  | brk | cnt | pass
  | loopD (tg : List Nat) (i : Nat) (b : List S)
  | no
end Fw
namespace Fw
open PySem
open Classical in
def noRefAux : Unit := ()
mutual
def noRef : D → Bool
  | .ref _ => false
  | .tup xs => noRefL xs
  | .lst xs => noRefL xs
  | .exc _ fs => noRefL fs
  | .dic ks vs => noRefL ks && noRefL vs
  | _ => true
def noRefL : List D → Bool
  | [] => true
  | x :: xs => noRef x && noRefL xs
end
def MulOk (i j : Int) : Prop := IntMulOk i j
def DivOk (i j : Int) : Prop := j ≠ 0 ∧ Builtin.divisionGoesByPylong i j = false
def line : Nat := sizeLine
noncomputable section
open Classical
def binI (op : BOp) (i j : Int) (M : Hh) : Out D := match op with
  | .add => .ok (.int (i + j)) M
  | .sub => .ok (.int (i - j)) M
  | .mul => if MulOk i j then .ok (.int (i * j)) M else .bad
  | .fdiv => if DivOk i j then .ok (.int (i.fdiv j)) M else .bad
  | .mod => if j ≠ 0 then .ok (.int (i.fmod j)) M else .bad
  | .pow => if 0 ≤ j ∧ j ≤ 1000000 ∧ i.natAbs < 2 ^ 64 then .ok (.int (i ^ j.toNat)) M else .bad
  | .shr => if 0 ≤ j then .ok (.int (i / 2 ^ j.toNat)) M else .bad
  | .band => .ok (.int (Builtin.bitAnd i j)) M
def catT (a b : D) (M : Hh) : Out D := match a, b with
  | .tup xs, .tup ys => if xs.length + ys.length ≤ line then .ok (.tup (xs ++ ys)) M else .bad
  | _, _ => .bad
def catD (m : Bool) (a b : D) (M : Hh) : Out D := match lstOf M a, lstOf M b with
  | some xs, some ys => if xs.length + ys.length ≤ line then mkL m (xs ++ ys) M else .bad
  | _, _ => catT a b M
def timesD (m : Bool) (a b : D) (M : Hh) : Out D := match a, b with
  | .ref i, .int k => match M[i]? with
    | some (.lst xs) => if 0 ≤ k ∧ k ≤ 4000 ∧ xs.length * k.toNat ≤ line then mkL m ((List.replicate k.toNat xs).flatten) M else .bad
    | _ => .bad
  | .tup xs, .int k => if xs ≠ [] ∧ 2 ≤ k ∧ k ≤ 4000 ∧ xs.length ≤ 1000 then .ok (.tup (List.replicate k.toNat xs).flatten) M else .bad
  | _, _ => .bad
def seqBin (m : Bool) (op : BOp) (a b : D) (M : Hh) : Out D := match op with
  | .add => catD m a b M
  | .mul => timesD m a b M
  | _ => .bad
def binD (m : Bool) (op : BOp) (a b : D) (M : Hh) : Out D := match a with
  | .int i => match b with
    | .int j => binI op i j M
    | _ => .bad
  | .str x => match b with
    | .str y => match op with
      | .add => if x.length + y.length ≤ line then .ok (.str (x ++ y)) M else .bad
      | _ => .bad
    | .int k => match op with
      | .mul => if 0 ≤ k ∧ k ≤ 1000000 ∧ x.length * k.toNat ≤ line then .ok (.str (List.replicate k.toNat x).flatten) M else .bad
      | _ => .bad
    | _ => .bad
  | a => seqBin m op a b M
def inL (M : Hh) (x : D) (xs : List D) : Option Bool :=
  if plain 12 (snap M 12 x) && plainL 12 (xs.map (snap M 12)) then some ((xs.map (snap M 12)).any fun z => eqD z (snap M 12 x)) else none
def key1 : D → Bool
  | .int _ => true
  | .str _ => true
  | _ => false
def keyT : D → Bool
  | .tup xs => xs.all key1
  | _ => false
def isIntD : D → Bool
  | .int _ => true
  | _ => false
def keyI : D → Bool
  | .tup xs => xs.all isIntD
  | _ => false
def isPair : D → Bool
  | .tup [_, _] => true
  | _ => false
def kindK (t : DKd) (k : D) : Bool := match t with
  | .one => key1 k
  | .tup => keyI k
  | .two => keyT k && isPair k
def tupcOf : D → Option (List D)
  | .dic [] xs => some xs
  | _ => none
def inD (M : Hh) (x y : D) : Option Bool := match y with
  | .str t => match x with
    | .str [c] => some (t.contains c)
    | .str y => if t.length < y.length then some false else none
    | _ => none
  | .tup xs => if plain 0 x && plainL 0 xs then some (xs.any fun z => eqD z x) else inL M x xs
  | y => match lstOf M y with
    | some xs => inL M x xs
    | none => match dicOf M y with
      | some (t, ks, vs) => if kindK t x then some (lookK x ks vs).isSome else none
      | none => match tupcOf y with
        | some xs => if plain 0 x && plainL 0 xs then some (xs.any fun z => eqD z x) else none
        | none => none
def isNon : D → Bool
  | .non => true
  | _ => false
def isBl (a : D) (c : Bool) : Option Bool := match a with
  | .bl d => some (d == c)
  | .non => some false
  | .tup _ => some false
  | .lst _ => some false
  | .ref _ => some false
  | _ => none
def cmpD (op : COp) (a b : D) (M : Hh) : Option Bool := match op with
  | .lt => match a, b with
    | .int i, .int j => some (decide (i < j))
    | _, _ => none
  | .le => match a, b with
    | .int i, .int j => some (decide (i ≤ j))
    | _, _ => none
  | .gt => match a, b with
    | .int i, .int j => some (decide (j < i))
    | _, _ => none
  | .ge => match a, b with
    | .int i, .int j => some (decide (j ≤ i))
    | _, _ => none
  | .eq => eqM M a b
  | .ne => (eqM M a b).map (!·)
  | .is => match b with
    | .non => some (isNon a)
    | .bl c => isBl a c
    | _ => none
  | .isnot => match b with
    | .non => some (!isNon a)
    | .bl c => (isBl a c).map (!·)
    | _ => none
  | .in_ => inD M a b
  | .notin => (inD M a b).map (!·)
def outB (o : Option Bool) (M : Hh) : Out D := match o with
  | some b => .ok (.bl b) M
  | none => .bad
def ixN (n : Nat) (i : Int) : Option Nat := if 0 ≤ i then (if i < n then some i.toNat else none) else if -(n : Int) ≤ i then some (i + n).toNat else none
def sIx (n d : Nat) : Option Int → Nat
  | none => d
  | some v => if v < 0 then (v + n).toNat else min v.toNat n
def cut {α : Type} (xs : List α) (lo hi : Option Int) : List α := (xs.drop (sIx xs.length 0 lo)).take (sIx xs.length xs.length hi - sIx xs.length 0 lo)
def idxD (a b : D) (M : Hh) : Out D := match a, b with
  | .str x, .int i => match (ixN x.length i).bind fun j => x[j]? with
    | some c => .ok (.str [c]) M
    | none => .bad
  | a, b => match seqOf M a, b with
    | some xs, .int i => match (ixN xs.length i).bind fun j => xs[j]? with
      | some d => .ok d M
      | none => .bad
    | _, _ => match dicOf M a with
      | some (t, ks, vs) => if kindK t b then match lookK b ks vs with
          | some v => .ok v M
          | none => .bad
        else .bad
      | none => .bad
def optI : D → Option (Option Int)
  | .non => some none
  | .int i => some (some i)
  | _ => none
def slD (m : Bool) (a lo hi : D) (M : Hh) : Out D := match optI lo, optI hi with
  | some l, some h => match a with
    | .str x => .ok (.str (cut x l h)) M
    | .tup xs => .ok (.tup (cut xs l h)) M
    | a => match lstOf M a with
      | some xs => mkL m (cut xs l h) M
      | none => .bad
  | _, _ => .bad
def ifB {β : Type} (x : D) (b t f : β) : β := match x with
  | .bl true => t
  | .bl false => f
  | _ => b
@[simp] theorem ifB_true {β : Type} (b t f : β) : ifB (.bl true) b t f = t := rfl
@[simp] theorem ifB_false {β : Type} (b t f : β) : ifB (.bl false) b t f = f := rfl
def notD (x : D) (M : Hh) : Out D := ifB x .bad (.ok (.bl false) M) (.ok (.bl true) M)
def negD (x : D) (M : Hh) : Out D := match x with
  | .int i => .ok (.int (-i)) M
  | _ => .bad
def isLN : E → Bool
  | .lit .non => true
  | _ => false
def partOk (absent : Bool) (l : D) : Bool := match absent, l with
  | true, .non => true
  | false, .int _ => true
  | _, _ => false
def partD (absent : Bool) (r : Out D) : Out D := r.bind fun l M => if partOk absent l then .ok l M else .bad
structure Pg where
  gl : List D
  ok : Nat → Bool
  sup : Nat → Nat → Bool
  ini : Nat → Option Nat
  mth : Nat → Nat → Option Nat
  kt : Bool
abbrev Orc := Nat → List D → Hh → Out D
def isTy (P : Pg) (M : Hh) (d : D) (t : Ty) : Option Bool := match d with
  | .non => some false
  | .bl _ => some (match t with | .int => true | .bool => true | _ => false)
  | .int _ => some (match t with | .int => true | _ => false)
  | .str _ => some (match t with | .str => true | _ => false)
  | .tup _ => some (match t with | .tuple => true | _ => false)
  | .lst _ => some (match t with | .list => true | _ => false)
  | .dic _ _ => none
  | .exc c _ => if P.ok c then some (match t with | .valErr => true | .cls c' => P.sup c c' | _ => false) else none
  | .cls _ => none
  | .ref i => match M[i]? with
    | some (.lst _) => some (match t with | .list => true | _ => false)
    | some (.dic .one _ _) => some (match t with | .dict => true | _ => false)
    | some (.dic .two _ _) => some (match t with | .dict => true | _ => false)
    | _ => none
def isTys (P : Pg) (M : Hh) (d : D) : List Ty → Option Bool
  | [] => some false
  | t :: ts => match isTy P M d t with
    | some true => some true
    | some false => isTys P M d ts
    | none => none
def intsOf : List D → Option (List Int)
  | [] => some []
  | .int i :: r => (intsOf r).map (i :: ·)
  | _ => none
def blsOf : List D → Option (List Bool)
  | [] => some []
  | .bl i :: r => (blsOf r).map (i :: ·)
  | _ => none
def strsOf : List D → Option (List (List Nat))
  | [] => some []
  | .str i :: r => (strsOf r).map (i :: ·)
  | _ => none
def intL (i : Int) : List Nat := (Str.ofString (toString i)).cps.toList
def ltD : D → D → Bool
  | .int i, .int j => decide (i < j)
  | .str x, .str y => decide (x < y)
  | _, _ => false
def maxI : List Int → Int
  | [] => 0
  | x :: xs => xs.foldl max x
def minI : List Int → Int
  | [] => 0
  | x :: xs => xs.foldl min x
def absD (vs : List D) (M : Hh) : Out D := match vs with
  | [.int i] => .ok (.int (if i < 0 then -i else i)) M
  | _ => .bad
def max2D (vs : List D) (M : Hh) : Out D := match vs with
  | [.int i, .int j] => .ok (.int (if j > i then j else i)) M
  | _ => .bad
def min2D (vs : List D) (M : Hh) : Out D := match vs with
  | [.int i, .int j] => .ok (.int (if j < i then j else i)) M
  | _ => .bad
def intD (vs : List D) (M : Hh) : Out D := match vs with
  | [.int i] => .ok (.int i) M
  | [.bl b] => .ok (.int (if b then 1 else 0)) M
  | [.str l] => match PySem.intText? ⟨l.toArray⟩ with
    | some n => if l.length ≤ 640 then .ok (.int n) M else .bad
    | none => .bad
  | _ => .bad
def strD (vs : List D) (M : Hh) : Out D := match vs with
  | [.int i] => if i.natAbs.log2 < 1900 ∧ (intL i).length ≤ line ∧ ∀ x ∈ intL i, x < 1114112 then .ok (.str (intL i)) M else .bad
  | _ => .bad
def lenD1 (d : D) (M : Hh) : Out D := match seqOf M d with
  | some xs => .ok (.int xs.length) M
  | none => match dicOf M d with
    | some (_, ks, _) => .ok (.int ks.length) M
    | none => .bad
def lenD (vs : List D) (M : Hh) : Out D := match vs with
  | [.str l] => .ok (.int l.length) M
  | [d] => lenD1 d M
  | _ => .bad
def sumD (vs : List D) (M : Hh) : Out D := match vs with
  | [d] => match (lstOf M d).bind intsOf with
    | some ns => .ok (.int ns.sum) M
    | none => .bad
  | _ => .bad
def tupI : D → Option (List Int)
  | .tup xs => intsOf xs
  | _ => none
def maxtD (d : D) (M : Hh) : Out D := match tupI d with
  | some ns => if ns = [] then .bad else .ok (.int (maxI ns)) M
  | none => .bad
def mintD (d : D) (M : Hh) : Out D := match tupI d with
  | some ns => if ns = [] then .bad else .ok (.int (minI ns)) M
  | none => .bad
def maxlD (vs : List D) (M : Hh) : Out D := match vs with
  | [d] => match (lstOf M d).bind intsOf with
    | some ns => if ns = [] then .bad else .ok (.int (maxI ns)) M
    | none => maxtD d M
  | _ => .bad
def minlD (vs : List D) (M : Hh) : Out D := match vs with
  | [d] => match (lstOf M d).bind intsOf with
    | some ns => if ns = [] then .bad else .ok (.int (minI ns)) M
    | none => mintD d M
  | _ => .bad
def allD (vs : List D) (M : Hh) : Out D := match vs with
  | [d] => match (lstOf M d).bind blsOf with
    | some bs => .ok (.bl (bs.all id)) M
    | none => .bad
  | _ => .bad
def listD (m : Bool) (vs : List D) (M : Hh) : Out D := match vs with
  | [d] => match seqOf M d with
    | some xs => mkL m xs M
    | none => match dicOf M d with
      | some (_, ks, _) => mkL m ks M
      | none => .bad
  | _ => .bad
def tupsOf : List D → Option (List (List Int))
  | [] => some []
  | .tup xs :: r => match intsOf xs with
    | some ns => (tupsOf r).map (ns :: ·)
    | none => none
  | _ => none
def lexLt : List Int → List Int → Bool
  | [], [] => false
  | [], _ :: _ => true
  | _ :: _, [] => false
  | x :: xs, y :: ys => if x = y then lexLt xs ys else decide (x < y)
def tupD (t : List Int) : D := .tup (t.map D.int)
def sortI (ns : List Int) : List Int := ns.mergeSort fun a b => decide (a ≤ b)
def sortT (ts : List (List Int)) : List (List Int) := ts.mergeSort fun a b => !lexLt b a
def sortS (ss : List (List Nat)) : List (List Nat) := ss.mergeSort fun a b => decide (a ≤ b)
def sortedL (xs : List D) : Option (List D) := match intsOf xs with
  | some ns => some ((sortI ns).map D.int)
  | none => match tupsOf xs with
    | some ts => if ts.all (fun t => !t.isEmpty) then some ((sortT ts).map tupD) else none
    | none => (strsOf xs).map fun ss => (sortS ss).map D.str
def sortedD (m : Bool) (vs : List D) (M : Hh) : Out D := match vs with
  | [d] => match (lstOf M d).bind sortedL with
    | some ys => mkL m ys M
    | none => match dicOf M d with
      | some (_, ks, _) => match sortedL ks with
        | some ys => mkL m ys M
        | none => .bad
      | none => .bad
  | _ => .bad
def tupleD (vs : List D) (M : Hh) : Out D := match vs with
  | [d] => match seqOf M d with
    | some xs => .ok (.tup xs) M
    | none => .bad
  | _ => .bad
def putK (k v : D) : List D → List D → List D × List D
  | a :: ks, b :: vs => if eqD a k then (a :: ks, v :: vs) else (a :: (putK k v ks vs).1, b :: (putK k v ks vs).2)
  | _, _ => ([k], [v])
def mergeD : List D → List D → List D × List D → List D × List D
  | k :: ks, v :: vs, acc => mergeD ks vs (putK k v acc.1 acc.2)
  | _, _, acc => acc
def pairsOf : List D → Option (List D × List D)
  | [] => some ([], [])
  | .tup [k, v] :: r => if key1 k = true then (pairsOf r).map fun p => (k :: p.1, v :: p.2) else none
  | _ => none
def pairsM : List D → Option (List D × List D)
  | [] => some ([], [])
  | .tup [k, v] :: r => if keyI k = true then (pairsM r).map fun p => (k :: p.1, v :: p.2) else none
  | _ => none
def dictD (vs : List D) (M : Hh) : Out D := match vs with
  | [d] => match dicOf M d with
    | some (.one, ks, es) => .ok (.ref M.length) (M ++ [.dic .one ks es])
    | some _ => .bad
    | none => match (lstOf M d).bind pairsOf with
      | some (ks, es) => .ok (.ref M.length) (M ++ [.dic .one (mergeD ks es ([], [])).1 (mergeD ks es ([], [])).2])
      | none => match (lstOf M d).bind pairsM with
        | some (ks, es) => .ok (.ref M.length) (M ++ [.dic .tup (mergeD ks es ([], [])).1 (mergeD ks es ([], [])).2])
        | none => .bad
  | _ => .bad
def biD (m : Bool) (b : Bi) (vs : List D) (M : Hh) : Out D := match b with
  | .abs => absD vs M
  | .max2 => max2D vs M
  | .min2 => min2D vs M
  | .maxl => maxlD vs M
  | .minl => minlD vs M
  | .sum => sumD vs M
  | .all => allD vs M
  | .len => lenD vs M
  | .int => intD vs M
  | .str => strD vs M
  | .list => listD m vs M
  | .tuple => tupleD vs M
  | .sorted => sortedD m vs M
  | .dict => dictD vs M
  | .lenset => .bad
inductive BmK where | lst | str | dic | int | tup
def bmK : Bm → BmK
  | .append => .lst | .extend => .lst | .pop => .lst | .reverse => .lst | .clear => .lst | .index => .lst | .count => .lst
  | .get1 => .dic | .get2 => .dic | .dpop => .dic | .update => .dic | .setdefault => .dic | .values => .dic | .dclear => .dic
  | .join => .str | .split => .str | .partition => .str | .startswith => .str | .starts3 => .str
  | .bitlen => .int
  | .tindex => .tup
def bmOk (b : Bm) (o : D) (M : Hh) : Bool := match bmK b with
  | .lst => (lstOf M o).isSome
  | .dic => (dicOf M o).isSome
  | .str => match o with | .str _ => true | _ => false
  | .int => match o with | .int _ => true | _ => false
  | .tup => (tupcOf o).isSome
def appendD (o : D) (vs : List D) (M : Hh) : Out D := match o, vs with
  | .ref i, [x] => match M[i]? with
    | some (.lst xs) => if xs.length < line then .ok .non (M.set i (.lst (xs ++ [x]))) else .bad
    | _ => .bad
  | _, _ => .bad
def extendD (o : D) (vs : List D) (M : Hh) : Out D := match o, vs with
  | .ref i, [.ref j] => match M[i]?, M[j]? with
    | some (.lst xs), some (.lst ys) => if xs.length + ys.length ≤ line then .ok .non (M.set i (.lst (xs ++ ys))) else .bad
    | _, _ => .bad
  | _, _ => .bad
def popD (o : D) (vs : List D) (M : Hh) : Out D := match o, vs with
  | .ref i, [] => match M[i]? with
    | some (.lst xs) => match xs[xs.length - 1]? with
      | some y => .ok y (M.set i (.lst xs.dropLast))
      | none => .bad
    | _ => .bad
  | _, _ => .bad
def reverseD (o : D) (vs : List D) (M : Hh) : Out D := match o, vs with
  | .ref i, [] => match M[i]? with
    | some (.lst xs) => .ok .non (M.set i (.lst xs.reverse))
    | _ => .bad
  | _, _ => .bad
def clearD (o : D) (vs : List D) (M : Hh) : Out D := match o, vs with
  | .ref i, [] => match M[i]? with
    | some (.lst xs) => .ok .non (M.set i (.lst []))
    | _ => .bad
  | _, _ => .bad
def joinD (o : D) (vs : List D) (M : Hh) : Out D := match o, vs with
  | .str s, [d] => match (seqOf M d).bind strsOf with
    | some ps => if (ps.map (·.length)).sum + ps.length * s.length ≤ 16777216 ∧ (TL.joinL s ps).length ≤ line then .ok (.str (TL.joinL s ps)) M else .bad
    | none => .bad
  | _, _ => .bad
def splitD (m : Bool) (o : D) (vs : List D) (M : Hh) : Out D := match o, vs with
  | .str l, [.str (t :: ts)] => if l.length + 2 ≤ line ∧ ((t :: ts).all fun x => decide (x < 256)) = true ∧ (TL.spl (t :: ts) 0 [] l).length ≤ line ∧ ∀ p ∈ TL.spl (t :: ts) 0 [] l, p.length ≤ line ∧ ∀ x ∈ p, x < 1114112
    then mkL m ((TL.spl (t :: ts) 0 [] l).map D.str) M else .bad
  | _, _ => .bad
def indexD (o : D) (vs : List D) (M : Hh) : Out D := match vs with
  | [y] => match lstOf M o with
    | some xs => if plain 12 (snap M 12 y) && plainL 12 (xs.map (snap M 12)) then match (xs.map (snap M 12)).findIdx? fun z => eqD z (snap M 12 y) with
        | some j => .ok (.int (j : Nat)) M
        | none => .bad
      else .bad
    | none => .bad
  | _ => .bad
def tindexD (o : D) (vs : List D) (M : Hh) : Out D := match tupcOf o, vs with
  | some xs, [.int y] => match intsOf xs with
    | some ns => if y ∈ ns then .ok (.int (ns.idxOf y : Nat)) M else .bad
    | none => .bad
  | _, _ => .bad
def bitlenD (o : D) (vs : List D) (M : Hh) : Out D := match o, vs with
  | .int i, [] => .ok (.int (Builtin.Int.intBits i)) M
  | _, _ => .bad
def get1D (o : D) (vs : List D) (M : Hh) : Out D := match vs with
  | [k] => match dicOf M o with
    | some (t, ks, es) => if kindK t k = true then .ok ((lookK k ks es).getD .non) M else .bad
    | none => .bad
  | _ => .bad
def delK (k : D) : List D → List D → List D × List D
  | a :: ks, v :: vs => if eqD a k = true then delK k ks vs else (a :: (delK k ks vs).1, v :: (delK k ks vs).2)
  | _, _ => ([], [])
def dpopD (o : D) (vs : List D) (M : Hh) : Out D := match o, vs with
  | .ref i, [k] => match M[i]? with
    | some (.dic .one ks es) => if key1 k = true then match lookK k ks es with
        | some v => .ok v (M.set i (.dic .one (delK k ks es).1 (delK k ks es).2))
        | none => .bad
      else .bad
    | _ => .bad
  | _, _ => .bad
def setdefD (o : D) (vs : List D) (M : Hh) : Out D := match o, vs with
  | .ref i, [k, v] => match M[i]? with
    | some (.dic .tup ks es) => if keyI k = true ∧ ks.length < line then match lookK k ks es with
        | some d => .ok d M
        | none => .ok v (M.set i (.dic .tup (putK k v ks es).1 (putK k v ks es).2))
      else .bad
    | _ => .bad
  | _, _ => .bad
def updateD (o : D) (vs : List D) (M : Hh) : Out D := match o, vs with
  | .ref i, [.ref j] => match M[i]?, M[j]? with
    | some (.dic .tup ks es), some (.dic .tup ks2 es2) => if i ≠ j ∧ ks ≠ [] ∧ ks.length + ks2.length ≤ line then .ok .non (M.set i (.dic .tup (mergeD ks2 es2 (ks, es)).1 (mergeD ks2 es2 (ks, es)).2)) else .bad
    | _, _ => .bad
  | _, _ => .bad
def dclearD (o : D) (vs : List D) (M : Hh) : Out D := match o, vs with
  | .ref i, [] => match M[i]? with
    | some (.dic .one ks es) => .ok .non (M.set i (.dic .one [] []))
    | _ => .bad
  | _, _ => .bad
def st3 (l t : List Nat) (i : Nat) : Bool := decide (i + t.length ≤ l.length) && ((l.drop i).take t.length == t)
def starts3D (o : D) (vs : List D) (M : Hh) : Out D := match o, vs with
  | .str l, [.str t, .int i] => if 0 ≤ i then .ok (.bl (st3 l t i.toNat)) M else .bad
  | _, _ => .bad
def bmD (m : Bool) (b : Bm) (o : D) (vs : List D) (M : Hh) : Out D := match b with
  | .starts3 => starts3D o vs M
  | .tindex => tindexD o vs M
  | .append => appendD o vs M
  | .extend => extendD o vs M
  | .pop => popD o vs M
  | .reverse => reverseD o vs M
  | .clear => clearD o vs M
  | .join => joinD o vs M
  | .split => splitD m o vs M
  | .bitlen => bitlenD o vs M
  | .index => indexD o vs M
  | .get1 => get1D o vs M
  | .dpop => dpopD o vs M
  | .setdefault => setdefD o vs M
  | .update => updateD o vs M
  | .dclear => dclearD o vs M
  | _ => .bad
def fldOf (f : Nat) : List (Nat × D) → Option D
  | [] => none
  | (g, d) :: r => if g = f then some d else fldOf f r
def putF (f : Nat) (d : D) : List (Nat × D) → List (Nat × D)
  | [] => [(f, d)]
  | (g, x) :: r => if g = f then (g, d) :: r else (g, x) :: putF f d r
def attrD (ok : Nat → Bool) (ini : Nat → Option Nat) (d : D) (f : Nat) (M : Hh) : Out D := match d with
  | .exc x [v] => if ok x = true ∧ f = 0 then .ok v M else .bad
  | .ref i => match M[i]? with
    | some (.obj x fs) => if (ini x).isSome = true then (match fldOf f fs with
      | some v => .ok v M
      | none => .bad) else .bad
    | _ => .bad
  | _ => .bad
def newD (i : Nat) (r : Out D) : Out D := match r with
  | .ok .non M => .ok (.ref i) M
  | _ => .bad
abbrev Items := List D × List (Nat × List D)
def guardOf : D → List D → List (Nat × List D)
  | .ref i, xs => [(i, xs)]
  | _, _ => []
def rngL (lo : Int) (c : Int) (n : Nat) : List D := (List.range n).map fun (i : Nat) => .int (lo + (i : Int) * c)
def lim (i : Int) : Prop := -(2 ^ 61) ≤ i ∧ i < 2 ^ 61
def enumL (i : Nat) : List D → List D
  | [] => []
  | x :: xs => .tup [.int i, x] :: enumL (i + 1) xs
def zipL : List D → List D → List D
  | x :: xs, y :: ys => .tup [x, y] :: zipL xs ys
  | _, _ => []
def seqIt (vs : List D) (M : Hh) : Option Items := match vs with
  | [.str l] => some (l.map fun c => .str [c], [])
  | [d] => (seqOf M d).map fun xs => (xs, guardOf d xs)
  | _ => none
def rng1It (vs : List D) : Option Items := match vs with
  | [.int j] => if lim j then some (rngL 0 1 j.toNat, []) else none
  | _ => none
def rng2It (vs : List D) : Option Items := match vs with
  | [.int i, .int j] => if lim i ∧ lim j then some (rngL i 1 (j - i).toNat, []) else none
  | _ => none
def rng3It (vs : List D) : Option Items := match vs with
  | [.int i, .int j, .int c] => if c ≠ 0 ∧ c.natAbs < 1073741824 ∧ Builtin.Range.small i j c = true then some (rngL i c (Builtin.Range.rangeSize i j c).toNat, []) else none
  | _ => none
def enumIt (vs : List D) (M : Hh) : Option Items := match vs with
  | [d] => (lstOf M d).map fun xs => (enumL 0 xs, guardOf d xs)
  | _ => none
def zipTup (d e : D) (M : Hh) : Option Items := match d with
  | .tup xs => match e with
    | .tup ys => some (zipL xs ys, [])
    | e => (lstOf M e).map fun ys => (zipL xs ys, guardOf e ys)
  | _ => none
def zipIt (vs : List D) (M : Hh) : Option Items := match vs with
  | [d, e] => match lstOf M d, lstOf M e with
    | some xs, some ys => some (zipL xs ys, guardOf d xs ++ guardOf e ys)
    | _, _ => zipTup d e M
  | _ => none
def tupcIt (vs : List D) (M : Hh) : Option Items := match vs with
  | [d] => (tupcOf d).map fun xs => (xs, [])
  | _ => none
def itsD (k : ItK) (vs : List D) (M : Hh) : Option Items := match k with
  | .seq => seqIt vs M
  | .rng1 => rng1It vs
  | .rng2 => rng2It vs
  | .rng3 => rng3It vs
  | .enum => enumIt vs M
  | .zip => zipIt vs M
  | .tupc => tupcIt vs M
def guardOk (g : List (Nat × List D)) (M : Hh) : Prop := ∀ p ∈ g, M[p.1]? = some (.lst p.2)
def setAll (is : List Nat) (ds : List D) (σ : Sl) : Option Sl := match is, ds with
  | [], [] => some σ
  | i :: is, d :: ds => setAll is ds (σ.set i (some d))
  | _, _ => none
def bindTg (tg : List Nat) (d : D) (σ : Sl) : Option Sl := match tg with
  | [i] => some (σ.set i (some d))
  | is => match d with
    | .tup ds => setAll is ds σ
    | _ => none
def compL (bind : D → Option Sl) (c : Sl → Hh → Out D) (e : Sl → Hh → Out D) (g : List (Nat × List D)) : List D → List D → Hh → Out (List D)
  | [], acc, M => .ok acc M
  | x :: xs, acc, M => if guardOk g M then match bind x with
    | none => .bad
    | some σ => (c σ M).bind fun b M1 => ifB b .bad ((e σ M1).bind fun y M2 => compL bind c e g xs (acc ++ [y]) M2) (compL bind c e g xs acc M1)
    else .bad
def endG {α : Type} (g : List (Nat × List D)) (o : Out α) : Out α := match o with
  | .ok a M => if guardOk g M then .ok a M else .bad
  | _ => .bad
def endX {α : Type} (g : List (Nat × List D)) (o : Out α) : Out α := match o with
  | .ok a M => if guardOk g M then .ok a M else .bad
  | .exn c fs M => .exn c fs M
  | .bad => .bad
def ownD (r : Out D) (M : Hh) : Out D := match r with
  | .ok d M' => if noRef (snap M' 8 d) then .ok (snap M' 8 d) M else .bad
  | .exn c fs _ => if noRefL fs then .exn c fs M else .bad
  | .bad => .bad
mutual
def shD (n : Nat) : D → D
  | .ref i => .ref (n + i)
  | .tup xs => .tup (shL n xs)
  | .lst xs => .lst (shL n xs)
  | .exc c fs => .exc c (shL n fs)
  | .non => .non
  | .bl b => .bl b
  | .int i => .int i
  | .str l => .str l
  | .dic ks vs => .dic ks vs
  | .cls c => .cls c
def shL (n : Nat) : List D → List D
  | [] => []
  | x :: xs => shD n x :: shL n xs
end
def shF (n : Nat) : List (Nat × D) → List (Nat × D)
  | [] => []
  | (f, d) :: r => (f, shD n d) :: shF n r
def shO (n : Nat) : MO → MO
  | .lst xs => .lst (shL n xs)
  | .dic t ks vs => .dic t ks (shL n vs)
  | .lck ks vs => .lck ks (shL n vs)
  | .obj c fs => .obj c (shF n fs)
def adoptD (r : Out D) (M : Hh) : Out D := match r with
  | .ok d M' => .ok (shD M.length d) (M ++ M'.map (shO M.length))
  | .exn c fs _ => if noRefL fs then .exn c fs M else .bad
  | .bad => .bad
mutual
def noLst : D → Bool
  | .lst _ => false
  | .tup xs => noLstL xs
  | .exc _ fs => noLstL fs
  | _ => true
def noLstL : List D → Bool
  | [] => true
  | x :: xs => noLst x && noLstL xs
end
def noLstO : MO → Bool
  | .lst xs => noLstL xs
  | .dic _ _ vs => noLstL vs
  | .lck _ vs => noLstL vs
  | .obj _ fs => noLstL (fs.map (·.2))
def lendD (r : Out D) (M : Hh) : Out D := match r with
  | .ok d M' => if noLst d then (if noRef d then .ok d M else if M'.all noLstO then .ok (shD M.length d) (M ++ M'.map (shO M.length)) else .bad) else .bad
  | .exn c fs _ => if noRefL fs && noLstL fs then .exn c fs M else .bad
  | .bad => .bad
def revD (m : Bool) (x : D) (M : Hh) : Out D := match lstOf M x with
  | some xs => mkL m xs.reverse M
  | none => .bad
def dispE (t : DKd) : List E → List E → Option (List D × List D)
  | [], [] => some ([], [])
  | [.lit a], [.lit b] => if t = .one ∧ key1 a = true then some ([a], [b]) else none
  | _, _ => none
def dispD (n : Nat) (ks es : List D) (M : Hh) : Out D := match M[n]? with
  | some (.dic .one [] []) => if ks.length = es.length then .ok (.ref n) (M.set n (.dic .one (mergeD ks es ([], [])).1 (mergeD ks es ([], [])).2)) else .bad
  | _ => .bad
def dN {α : Type} [DecidableEq α] : List α → Nat
  | [] => 0
  | x :: xs => if x ∈ xs then dN xs else dN xs + 1
def lensetD (vs : List D) (M : Hh) : Out D := match vs with
  | [d] => match (lstOf M d).bind strsOf with
    | some ps => if ps.length < 4000 then .ok (.int (dN ps : Nat)) M else .bad
    | none => match (lstOf M d).bind tupsOf with
      | some ts => if ts.length < 60 then .ok (.int (dN ts : Nat)) M else .bad
      | none => .bad
  | _ => .bad
def lzipD (m : Bool) (a b : D) (M : Hh) : Out D := match lstOf M a, lstOf M b with
  | some xs, some ys => if xs.length ≤ line then mkL m (zipL xs ys) M else .bad
  | _, _ => .bad
def truD (M : Hh) : D → Option Bool
  | .non => some false
  | .str l => some (!l.isEmpty)
  | .tup xs => some (!xs.isEmpty)
  | .lst xs => some (!xs.isEmpty)
  | .ref i => match M[i]? with
    | some (.lst xs) => some (!xs.isEmpty)
    | _ => none
  | _ => none
def orD (o : Option Bool) (x : D) (M : Hh) (r : Out D) : Out D := match o with
  | some true => .ok x M
  | some false => r
  | none => .bad
@[simp] theorem orD_true (x : D) (M : Hh) (r : Out D) : orD (some true) x M r = .ok x M := rfl
@[simp] theorem orD_false (x : D) (M : Hh) (r : Out D) : orD (some false) x M r = r := rfl
def dzipD (a b : D) (M : Hh) : Out D := match a, lstOf M b with
  | .tup xs, some ys => if xs.all key1 = true ∧ xs.length = ys.length then .ok (.ref M.length) (M ++ [.dic .one (mergeD xs ys ([], [])).1 (mergeD xs ys ([], [])).2]) else .bad
  | _, _ => .bad
def lockD (σ : Sl) (i : Nat) (M : Hh) : Option (Nat × List D × List D) := match σ[i]? with
  | some (some (.ref k)) => match M[k]? with
    | some (.dic .one ks vs) => some (k, ks, vs)
    | _ => none
  | _ => none
def idxLD (x y : D) (M : Hh) : Out D := match x with
  | .ref k => match M[k]? with
    | some (.lck ks vs) => if key1 y then match lookK y ks vs with
        | some v => .ok v M
        | none => .bad
      else .bad
    | _ => .bad
  | _ => .bad
def unlkD {α : Type} (k : Nat) (ks vs : List D) (o : Out α) : Out α := match o with
  | .ok y M => match M[k]? with
    | some (.lck _ _) => .ok y (M.set k (.dic .one ks vs))
    | _ => .bad
  | _ => .bad
section
variable (P : Pg) (Φ : Orc)
mutual
def evE : E → Sl → Hh → Out D
  | .var i, σ, M => match σ[i]? with
    | some (some d) => .ok d M
    | _ => .bad
  | .lit d, _, M => .ok d M
  | .glo k, _, M => match P.gl[k]? with
    | some d => .ok d M
    | none => .bad
  | .bin m op a b, σ, M => (evE a σ M).bind fun x M1 => (evE b σ M1).bind fun y M2 => binD m op x y M2
  | .neg a, σ, M => (evE a σ M).bind negD
  | .not a, σ, M => (evE a σ M).bind notD
  | .cmp op a b, σ, M => (evE a σ M).bind fun x M1 => (evE b σ M1).bind fun y M2 => outB (cmpD op x y M2) M2
  | .cmp2 o1 o2 a b c, σ, M => (evE a σ M).bind fun x M1 => (evE b σ M1).bind fun y M2 => (outB (cmpD o1 x y M2) M2).bind fun b _ => ifB b .bad ((evE c σ M2).bind fun z M3 => outB (cmpD o2 y z M3) M3) (.ok (.bl false) M2)
  | .and a b, σ, M => (evE a σ M).bind fun x M1 => ifB x .bad (evE b σ M1) (.ok (.bl false) M1)
  | .or a b, σ, M => (evE a σ M).bind fun x M1 => ifB x .bad (.ok (.bl true) M1) (evE b σ M1)
  | .ite c a b, σ, M => (evE c σ M).bind fun x M1 => ifB x .bad (evE a σ M1) (evE b σ M1)
  | .tup es, σ, M => (evL es σ M).bind fun ds M1 => .ok (.tup ds) M1
  | .lst m es, σ, M => (evL es σ M).bind fun ds M1 => mkL m ds M1
  | .idx a b, σ, M => (evE a σ M).bind fun x M1 => (evE b σ M1).bind fun y M2 => idxD x y M2
  | .sl m a lo hi, σ, M => (evE a σ M).bind fun x M1 => (partD (isLN lo) (evE lo σ M1)).bind fun l M2 => (partD (isLN hi) (evE hi σ M2)).bind fun h M3 => slD m x l h M3
  | .call p f es, σ, M => (evL es σ M).bind fun ds M1 => if p then (if noRefL ds then ownD (Φ f ds []) M1 else .bad) else Φ f ds M1
  | .new c es, σ, M => (evL es σ M).bind fun ds M1 => match P.ini c with
    | some f => newD M1.length (Φ f (.ref M1.length :: ds) (M1 ++ [.obj c []]))
    | none => .bad
  | .meth k o es, σ, M => (evE o σ M).bind fun x M1 => match x with
    | .ref i => match M1[i]? with
      | some (.obj c fs) => match P.mth c k with
        | some f => (evL es σ M1).bind fun ds M2 => Φ f (.ref i :: ds) M2
        | none => .bad
      | _ => .bad
    | _ => .bad
  | .bi m b es, σ, M => (evL es σ M).bind fun ds M1 => biD m b ds M1
  | .bm m b o es, σ, M => (evE o σ M).bind fun x M1 => if bmOk b x M1 then (evL es σ M1).bind fun ds M2 => bmD m b x ds M2 else .bad
  | .attr o f, σ, M => (evE o σ M).bind fun x M1 => attrD P.ok P.ini x f M1
  | .isi a ts, σ, M => (evE a σ M).bind fun x M1 => outB (isTys P M1 x ts) M1
  | .comp m tg k its c e, σ, M => (evL its σ M).bind fun vs M1 => match itsD k vs M1 with
    | some (xs, g) => if line < xs.length then .bad else (endG g (compL (fun d => bindTg tg d σ) (match c with | none => fun _ M => .ok (.bl true) M | some t => evE t) (evE e) g xs [] M1)).bind fun ys M2 => mkL m ys M2
    | none => .bad
  | .dict t ks vs, σ, M => match dispE t ks vs with
    | some (ds, es) => .ok (.ref M.length) (M ++ [.dic t ds es])
    | none => .bad
  | .rev m a, σ, M => (evE a σ M).bind fun x M1 => revD m x M1
  | .callA f es, σ, M => (evL es σ M).bind fun ds M1 => if noRefL ds then adoptD (Φ f ds []) M1 else .bad
  | .callS f es, σ, M => (evL es σ M).bind fun ds M1 => if noRefL (ds.map (snap M1 8)) then lendD (Φ f (ds.map (snap M1 8)) []) M1 else .bad
  | .exv c es, σ, M => (evL es σ M).bind fun ds M1 => match ds with
    | [d] => if P.ok c = true then .ok (.exc c [d]) M1 else .bad
    | _ => .bad
  | .disp ks vs, σ, M => (evL vs σ (M ++ [.dic .one [] []])).bind fun es M1 => dispD M.length ks es M1
  | .lzip m a b, σ, M => (evE a σ M).bind fun x M1 => (evE b σ M1).bind fun y M2 => lzipD m x y M2
  | .lens a, σ, M => (evE a σ M).bind fun x M1 => lensetD [x] M1
  | .orv a b, σ, M => (evE a σ M).bind fun x M1 => orD (truD M1 x) x M1 (evE b σ M1)
  | .dzip a b, σ, M => (evE a σ M).bind fun x M1 => (evE b σ M1).bind fun y M2 => dzipD x y M2
  | .compD m tg i c e, σ, M => match lockD σ i M with
    | some (k, ks, vs) => if line < ks.length then .bad else (unlkD k ks vs (compL (fun d => bindTg tg d σ) (match c with | none => fun _ M => .ok (.bl true) M | some t => evE t) (evE e) [] ks [] (M.set k (.lck ks vs)))).bind fun ys M2 => mkL m ys M2
    | none => .bad
  | .tupC es, σ, M => (evL es σ M).bind fun ds M1 => if ds.all isIntD = true then .ok (.dic [] ds) M1 else .bad
  | .idxL a b, σ, M => (evE a σ M).bind fun x M1 => (evE b σ M1).bind fun y M2 => idxLD x y M2
  | .callV i fs es, σ, M => match σ[i]? with
    | some (some (.cls x)) => if fs.contains x = true then (evL es σ M).bind fun ds M1 => Φ (x - 500) ds M1 else .bad
    | _ => .bad
  | .compX m tg k its c e, σ, M => (evL its σ M).bind fun vs M1 => match itsD k vs M1 with
    | some (xs, g) => if line < xs.length then .bad else (endX g (compL (fun d => bindTg tg d σ) (match c with | none => fun _ M => .ok (.bl true) M | some t => evE t) (evE e) g xs [] M1)).bind fun ys M2 => mkL m ys M2
    | none => .bad
  | .no, _, _ => .bad
def evL : List E → Sl → Hh → Out (List D)
  | [], _, M => .ok [] M
  | e :: es, σ, M => (evE e σ M).bind fun x M1 => (evL es σ M1).bind fun xs M2 => .ok (x :: xs) M2
end
inductive Fl where | nx | brk | cnt | ret (d : D)
inductive OutS where
  | ok (f : Fl) (σ : Sl) (M : Hh) | exn (c : Nat) (fs : List D) (σ : Sl) (M : Hh) | bad
def Out.st {α : Type} (o : Out α) (σ : Sl) (k : α → Hh → OutS) : OutS := match o with
  | .ok a M => k a M
  | .exn c fs M => .exn c fs σ M
  | .bad => .bad
@[simp] theorem Out.st_ok {α : Type} (a : α) (M : Hh) (σ : Sl) (k : α → Hh → OutS) : (Out.ok a M).st σ k = k a M := rfl
@[simp] theorem Out.st_exn {α : Type} (c : Nat) (fs : List D) (M : Hh) (σ : Sl) (k : α → Hh → OutS) : (Out.exn c fs M : Out α).st σ k = .exn c fs σ M := rfl
@[simp] theorem Out.st_bad {α : Type} (σ : Sl) (k : α → Hh → OutS) : (Out.bad : Out α).st σ k = .bad := rfl
def OutS.next (o : OutS) (k : Sl → Hh → OutS) : OutS := match o with
  | .ok .nx σ M => k σ M
  | o => o
@[simp] theorem OutS.next_nx (σ : Sl) (M : Hh) (k : Sl → Hh → OutS) : (OutS.ok .nx σ M).next k = k σ M := rfl
@[simp] theorem OutS.next_brk (σ : Sl) (M : Hh) (k : Sl → Hh → OutS) : (OutS.ok .brk σ M).next k = .ok .brk σ M := rfl
@[simp] theorem OutS.next_cnt (σ : Sl) (M : Hh) (k : Sl → Hh → OutS) : (OutS.ok .cnt σ M).next k = .ok .cnt σ M := rfl
@[simp] theorem OutS.next_ret (d : D) (σ : Sl) (M : Hh) (k : Sl → Hh → OutS) : (OutS.ok (.ret d) σ M).next k = .ok (.ret d) σ M := rfl
@[simp] theorem OutS.next_exn (c : Nat) (fs : List D) (σ : Sl) (M : Hh) (k : Sl → Hh → OutS) : (OutS.exn c fs σ M).next k = .exn c fs σ M := rfl
@[simp] theorem OutS.next_bad (k : Sl → Hh → OutS) : OutS.bad.next k = .bad := rfl
def OutS.turn (o : OutS) (k : Sl → Hh → OutS) : OutS := match o with
  | .ok .nx σ M => k σ M
  | .ok .cnt σ M => k σ M
  | .ok .brk σ M => .ok .nx σ M
  | o => o
@[simp] theorem OutS.turn_nx (σ : Sl) (M : Hh) (k : Sl → Hh → OutS) : (OutS.ok .nx σ M).turn k = k σ M := rfl
@[simp] theorem OutS.turn_brk (σ : Sl) (M : Hh) (k : Sl → Hh → OutS) : (OutS.ok .brk σ M).turn k = .ok .nx σ M := rfl
@[simp] theorem OutS.turn_cnt (σ : Sl) (M : Hh) (k : Sl → Hh → OutS) : (OutS.ok .cnt σ M).turn k = k σ M := rfl
@[simp] theorem OutS.turn_ret (d : D) (σ : Sl) (M : Hh) (k : Sl → Hh → OutS) : (OutS.ok (.ret d) σ M).turn k = .ok (.ret d) σ M := rfl
@[simp] theorem OutS.turn_exn (c : Nat) (fs : List D) (σ : Sl) (M : Hh) (k : Sl → Hh → OutS) : (OutS.exn c fs σ M).turn k = .exn c fs σ M := rfl
@[simp] theorem OutS.turn_bad (k : Sl → Hh → OutS) : OutS.bad.turn k = .bad := rfl
def subD (d o i : D) (M : Hh) : Option Hh := match o with
  | .ref a => match M[a]? with
    | some (.lst xs) => match i with
      | .int z => match ixN xs.length z with
        | some j => some (M.set a (.lst (xs.set j d)))
        | none => none
      | _ => none
    | some (.dic t ks vs) => if kindK t i ∧ ks.length < line then some (M.set a (.dic t (putK i d ks vs).1 (putK i d ks vs).2)) else none
    | _ => none
  | _ => none
def fldD (ini : Nat → Option Nat) (d o : D) (f : Nat) (M : Hh) : Option Hh := match o with
  | .ref a => match M[a]? with
    | some (.obj c fs) => if (ini c).isSome = true ∧ fs.length < 100 then some (M.set a (.obj c (putF f d fs))) else none
    | _ => none
  | _ => none
def putAll (ini : Nat → Option Nat) (x : D) : List Nat → List D → Hh → Option Hh
  | [], [], M => some M
  | f :: fs, d :: ds, M => match fldD ini d x f M with
    | some M1 => putAll ini x fs ds M1
    | none => none
  | _, _, _ => none
def whileN (c : Sl → Hh → Out D) (b : Sl → Hh → OutS) : Nat → Sl → Hh → OutS
  | 0, _, _ => .bad
  | n + 1, σ, M => (c σ M).st σ fun x M1 => ifB x .bad ((b σ M1).turn fun σ' M' => whileN c b n σ' M') (.ok .nx σ M1)
def whileR (c : Sl → Hh → Out D) (b : Sl → Hh → OutS) (σ : Sl) (M : Hh) : OutS :=
  if h : ∃ n, whileN c b n σ M ≠ .bad then whileN c b (Classical.choose h) σ M else .bad
def forL (bind : D → Sl → Option Sl) (b : Sl → Hh → OutS) (g : List (Nat × List D)) : List D → Sl → Hh → OutS
  | [], σ, M => if guardOk g M then .ok .nx σ M else .bad
  | x :: xs, σ, M => if guardOk g M then match bind x σ with
    | none => .bad
    | some σ1 => (b σ1 M).turn fun σ' M' => forL bind b g xs σ' M'
    else .bad
def unlkS (k : Nat) (ks vs : List D) (o : OutS) : OutS := match o with
  | .ok f σ M => match M[k]? with
    | some (.lck _ _) => .ok f σ (M.set k (.dic .one ks vs))
    | _ => .bad
  | _ => .bad
def catchS (ok : Nat → Bool) (sup : Nat → Nat → Bool) (cc : Nat) (slot : Option Nat) (h : Sl → Hh → OutS) (r : OutS) : OutS := match r with
    | .exn x fs σ1 M1 => if ok x = true then (if sup x cc = true then match slot with
        | none => match h σ1 M1 with
          | .ok f σ2 M2 => .ok f σ2 M2
          | .exn _ _ _ _ => .bad
          | .bad => .bad
        | some i => match h (σ1.set i (some (.exc x fs))) M1 with
          | .ok f σ2 M2 => .ok f (σ2.set i none) M2
          | .exn _ _ _ _ => .bad
          | .bad => .bad
      else .exn x fs σ1 M1) else .bad
    | o => o
def catchR (ok : Nat → Bool) (sup : Nat → Nat → Bool) (cc : Nat) (g : Sl → Hh → OutS) (r : OutS) : OutS := match r with
    | .exn x fs σ1 M1 => if ok x = true then (if sup x cc = true then g σ1 M1 else .exn x fs σ1 M1) else .bad
    | o => o
mutual
def exS : S → Sl → Hh → OutS
  | .asg t e, σ, M => (evE P Φ e σ M).st σ fun d M1 => match t with
    | .name i => .ok .nx (σ.set i (some d)) M1
    | .names l is => match (if l then seqOf M1 d else match d with | .tup xs => some xs | _ => none) with
      | some ds => match setAll is ds σ with
        | some σ1 => .ok .nx σ1 M1
        | none => .bad
      | none => .bad
    | .sub o i => (evE P Φ o σ M1).st σ fun x M2 => (evE P Φ i σ M2).st σ fun y M3 => match subD d x y M3 with
      | some M4 => .ok .nx σ M4
      | none => .bad
    | .fld o f => (evE P Φ o σ M1).st σ fun x M2 => match fldD P.ini d x f M2 with
      | some M4 => .ok .nx σ M4
      | none => .bad
    | .flds i fs => match d with
      | .tup ds => match σ[i]? with
        | some (some x) => match putAll P.ini x fs ds M1 with
          | some M2 => .ok .nx σ M2
          | none => .bad
        | _ => .bad
      | _ => .bad
  | .par is es, σ, M => (evL P Φ es σ M).st σ fun ds M1 => match setAll is ds σ with
    | some σ1 => .ok .nx σ1 M1
    | none => .bad
  | .expr e, σ, M => (evE P Φ e σ M).st σ fun _ M1 => .ok .nx σ M1
  | .ite c a b, σ, M => (evE P Φ c σ M).st σ fun x M1 => ifB x .bad (exSs a σ M1) (exSs b σ M1)
  | .whl c b, σ, M => whileR (evE P Φ c) (exSs b) σ M
  | .loop tg k its b, σ, M => (evL P Φ its σ M).st σ fun vs M1 => match itsD k vs M1 with
    | some (xs, g) => forL (bindTg tg) (exSs b) g xs σ M1
    | none => .bad
  | .ret e, σ, M => (evE P Φ e σ M).st σ fun d M1 => .ok (.ret d) σ M1
  | .retN, σ, M => .ok (.ret .non) σ M
  | .retX m tg k its e, σ, M => (evE P Φ (.compX m tg k its none e) σ M).st σ fun d M1 => .ok (.ret d) σ M1
  | .raise c es, σ, M => (evL P Φ es σ M).st σ fun ds M1 => .exn c ds σ M1
  | .try_ b c slot h, σ, M => catchS P.ok P.sup c slot (exSs h) (exSs b σ M)
  | .tryR b c c2 es, σ, M => catchR P.ok P.sup c (fun σ M => (evL P Φ es σ M).st σ fun ds M1 => .exn c2 ds σ M1) (exSs b σ M)
  | .brk, σ, M => .ok .brk σ M
  | .cnt, σ, M => .ok .cnt σ M
  | .pass, σ, M => .ok .nx σ M
  | .loopD tg i b, σ, M => match lockD σ i M with
    | some (k, ks, vs) => if line < ks.length then .bad else unlkS k ks vs (forL (bindTg tg) (exSs b) [] ks σ (M.set k (.lck ks vs)))
    | none => .bad
  | .no, _, _ => .bad
def exSs : List S → Sl → Hh → OutS
  | [], σ, M => .ok .nx σ M
  | s :: r, σ, M => (exS s σ M).next fun σ1 M1 => exSs r σ1 M1
end
end
structure Fn where
  par : Nat
  slots : Nat
  body : List S
def startS (n : Nat) (ds : List D) : Sl := ds.map some ++ List.replicate (n - ds.length) none
def endS (o : OutS) : Out D := match o with
  | .ok .nx _ M => .ok .non M
  | .ok (.ret d) _ M => .ok d M
  | .ok .brk _ _ => .bad
  | .ok .cnt _ _ => .bad
  | .exn c fs _ M => .exn c fs M
  | .bad => .bad
def run (P : Pg) (T : List Fn) : Nat → Orc
  | 0 => fun _ _ _ => .bad
  | k + 1 => fun f ds M => match T[f]? with
    | some F => if ds.length = F.par then endS (exSs P (run P T k) F.body (startS F.slots ds) M) else .bad
    | none => .bad
end
end Fw
namespace Fw
open PySem PySem.Spec PyProof.Rows L2
structure Ct where
  K : PySem.W.Frag
  ca : Nat → Addr
  an : Nat → Str
  gl : List D
  gv : Nat → V
  kt : Bool
  na : Nat
structure Wd where
  av : Addr → Prop
  ι : List Addr
def Wd.mu (w : Wd) (a : Addr) : Prop := a ∈ w.ι ∨ w.av a
def IsMut : HO → Prop
  | .lst _ | .dK _ | .dT _ | .ins _ _ _ | .ext _ | .frz _ _ => True
  | _ => False
def KL (K : PySem.W.Frag) (a : Addr) (xs : List V) : Prop := ∃ (o : Obj) (its : Array Value) (n : Nat), K.lookup a = some o ∧ o.cls = .type "list" ∧ o.dict = none ∧ o.data = .seq its n ∧ its.size ≤ sizeLine ∧ Vals xs its.toList
def SqLf (K : PySem.W.Frag) (w : Wd) (H : Hp) (a : Addr) (xs : List V) : Prop := (¬ w.mu a ∧ Rd H a (.lst xs)) ∨ KL K a xs
def KT (K : PySem.W.Frag) (a : Addr) (xs : List V) : Prop := ∃ (o : Obj) (its : Array Value) (n : Nat), K.lookup a = some o ∧ o.cls = .type "tuple" ∧ o.data = .seq its n ∧ its.size ≤ sizeLine ∧ Vals xs its.toList
def SqTf (K : PySem.W.Frag) (kt : Bool) (w : Wd) (H : Hp) (a : Addr) (xs : List V) : Prop := (¬ w.mu a ∧ H a = some (.tup xs)) ∨ (kt = true ∧ KT K a xs ∧ xs.length ≠ 2)
theorem SqLf.sq {K : PySem.W.Frag} {w : Wd} {H : Hp} {a : Addr} {xs : List V} (h : SqLf K w H a xs) : SqL K H a xs := h.elim (fun z => .inl z.2) .inr
theorem SqTf.sq {K : PySem.W.Frag} {kt : Bool} {w : Wd} {H : Hp} {a : Addr} {xs : List V} (h : SqTf K kt w H a xs) : SqT K H a xs := h.elim (fun z => .inl (.inl z.2)) fun z => .inr z.2.1
def ExT (cls : Value) (d : Option Addr) (a : Addr) : HO := .ext fun h => ∃ (oe : Obj) (vs : Array Value), h.get? a = some oe ∧ Zc cls d oe ∧ oe.data = .fields vs
mutual
def Rep (c : Ct) (w : Wd) (H : Hp) : D → V → Prop
  | .non, v => v = .non
  | .bl b, v => v = .bl b
  | .int i, v => v = .int i
  | .str l, v => v = .str ⟨l.toArray⟩ ∧ l.length ≤ sizeLine ∧ ∀ x ∈ l, x < 1114112
  | .tup xs, v => ∃ a vs, v = .ref a ∧ SqTf c.K c.kt w H a vs ∧ xs.length ≤ sizeLine ∧ RepL c w H xs vs
  | .lst xs, v => ∃ a vs, v = .ref a ∧ SqLf c.K w H a vs ∧ xs.length ≤ sizeLine ∧ RepL c w H xs vs
  | .ref i, v => ∃ a, v = .ref a ∧ w.ι[i]? = some a
  | .exc x fs, v => ∃ a dd, v = .ref a ∧ ¬ w.mu a ∧ H a = some (ExT (.ref (c.ca x)) dd a) ∧ RepX c w H fs dd
  | .dic ks vs, v => ks = [] ∧ ∃ (a : Addr) (o : Obj) (ns : List Int), v = .ref a ∧ ¬ w.mu a ∧ H a = some (.frz o (.tup (ns.map V.int))) ∧ o.dict = none ∧ vs = ns.map D.int
  | .cls x, v => v = .ref (c.ca x)
def RepL (c : Ct) (w : Wd) (H : Hp) : List D → List V → Prop
  | [], vs => vs = []
  | x :: xs, vs => ∃ v r, vs = v :: r ∧ Rep c w H x v ∧ RepL c w H xs r
def RepX (c : Ct) (w : Wd) (H : Hp) : List D → Option Addr → Prop
  | [], dd => dd = none
  | x :: r, dd => r = [] ∧ ∃ d v, dd = some d ∧ ¬ w.mu d ∧ H d = some (.xd [("at", v)]) ∧ Rep c w H x v
end
def kD : Key → D
  | .inl i => .int i
  | .inr x => .str x.cps.toList
def hsI (ks : List Key) : Int := reduceHash (Builtin.Tuple.tupleHashOf (ks.map fun k => match k with | .inl i => hashInt i | .inr _ => 0))
def isI : Key → Bool
  | .inl _ => true
  | .inr _ => false
def dM (a : Addr) (xs : List (List Key × Addr × Value)) : HO := .ext fun h => ∃ (o : Obj) (es : Array DictEntry) (ep : Nat), h.get? a = some o ∧ o.ExactDict ∧ o.data = .dict es ep ∧ es.toList = xs.map fun x => (⟨hsI x.1, .ref x.2.1, x.2.2⟩ : DictEntry)
abbrev KN : List (List Key × V) → List (List Key × Addr × Value) → Prop := Paired fun p q => p.1 = q.1 ∧ RelV p.2 q.2.2
def RepO (c : Ct) (w : Wd) (H : Hp) (a : Addr) : MO → Prop
  | .lst xs => ∃ vs, H a = some (.lst vs) ∧ xs.length ≤ sizeLine ∧ RepL c w H xs vs
  | .dic t ks vs => ks.length = vs.length ∧ ks.length ≤ sizeLine ∧ match t with
    | .one => ∃ kvs : List (Key × V), H a = some (.dK kvs) ∧ (kvs.map (·.1)).Nodup ∧ ks = kvs.map (fun p => kD p.1) ∧ RepL c w H ks (kvs.map fun p => kV p.1) ∧ RepL c w H vs (kvs.map (·.2))
    | .tup => ∃ (kvs : List (List Key × V)) (xs : List (List Key × Addr × Value)), H a = some (dM a xs) ∧ (a == sysModules) = false ∧ KN kvs xs ∧ (kvs.map (·.1)).Nodup ∧ (∀ p ∈ kvs, p.1.all isI = true) ∧ ks = kvs.map (fun p => D.tup (p.1.map kD)) ∧
        (∀ q ∈ xs, Rep c w H (.tup (q.1.map kD)) (.ref q.2.1)) ∧ RepL c w H vs (kvs.map (·.2))
    | .two => ∃ kvs : List (List Key × V), H a = some (.dT kvs) ∧ (kvs.map (·.1)).Nodup ∧ ks = kvs.map (fun p => D.tup (p.1.map kD)) ∧
        (∀ p ∈ kvs, p.1.length ≤ sizeLine ∧ RepL c w H (p.1.map kD) (p.1.map kV)) ∧ RepL c w H vs (kvs.map (·.2))
  | .lck ks vs => ks.length = vs.length ∧ ks.length ≤ sizeLine ∧ ∃ (o : Obj) (kvs : List (Key × V)), H a = some (.frz o (.dK kvs)) ∧ (kvs.map (·.1)).Nodup ∧ ks = kvs.map (fun p => kD p.1) ∧ RepL c w H ks (kvs.map fun p => kV p.1) ∧ RepL c w H vs (kvs.map (·.2))
  | .obj x fs => ∃ dx fv, H a = some (.ins (c.ca x) dx fv) ∧ fv.map (·.1) = fs.map (fun p => c.an p.1) ∧ (∀ p ∈ fs, p.1 < c.na) ∧ RepL c w H (fs.map (·.2)) (fv.map (·.2))
structure Sim (c : Ct) (w : Wd) (M : Hh) (H : Hp) : Prop where
  len : w.ι.length = M.length
  nd : w.ι.Nodup
  av : ∀ a, w.av a → a ∉ w.ι ∧ ∃ o, H a = some o ∧ IsMut o
  cell : ∀ (i : Nat) (a : Addr) (mo : MO), w.ι[i]? = some a → M[i]? = some mo → RepO c w H a mo
  gl : ∀ (k : Nat) (d : D), c.gl[k]? = some d → noRef d = true ∧ Rep c w H d (c.gv k)
structure Stp (w : Wd) (H : Hp) (w' : Wd) (H' : Hp) : Prop where
  av : w'.av = w.av
  ι : ∃ new, w'.ι = w.ι ++ new ∧ ∀ a ∈ new, H a = none
  keep : ∀ b o, H b = some o → b ∉ w.ι → H' b = some o
  live : ∀ b, H b ≠ none → H' b ≠ none
  frz : ∀ b o u, H b = some (.frz o u) → H' b = some (.frz o u)
structure Gr (w : Wd) (H : Hp) (w' : Wd) (H' : Hp) : Prop where
  keep : ∀ (a : Addr) (o : HO), H a = some o → ¬ w.mu a → ¬ w'.mu a ∧ H' a = some o
  ix : ∀ (i : Nat) (a : Addr), w.ι[i]? = some a → w'.ι[i]? = some a
structure RepS (c : Ct) (w : Wd) (H : Hp) (σ : Sl) (τ : L2.St) : Prop where
  len : σ.length = τ.length
  at_ : ∀ (i : Nat) (d : D), σ[i]? = some (some d) → ∃ v, τ[i]? = some (some v) ∧ Rep c w H d v
section
variable {c : Ct} {w w1 w2 : Wd} {H H1 H2 : Hp}
theorem Stp.refl : Stp w H w H := ⟨rfl, ⟨[], by simp, by simp⟩, fun _ _ h _ => h, fun _ h => h, fun _ _ _ h => h⟩
theorem Stp.trans (a : Stp w H w1 H1) (b : Stp w1 H1 w2 H2) : Stp w H w2 H2 := by
  obtain ⟨n1, e1, f1⟩ := a.ι
  obtain ⟨n2, e2, f2⟩ := b.ι
  refine ⟨b.av.trans a.av, ⟨n1 ++ n2, by rw [e2, e1, List.append_assoc], fun x hx => ?_⟩, fun x o h hx => ?_, fun x h => b.live x (a.live x h), fun x o u h => b.frz x o u (a.frz x o u h)⟩
  · rcases List.mem_append.mp hx with h | h
    · exact f1 x h
    · have := f2 x h
      by_cases q : H x = none
      · exact q
      · exact absurd this (a.live x q)
  · refine b.keep x o (a.keep x o h hx) fun hm => ?_
    rw [e1] at hm
    rcases List.mem_append.mp hm with h' | h'
    · exact hx h'
    · rw [f1 x h'] at h; cases h
theorem Stp.nmu (s : Stp w H w1 H1) {a : Addr} {o : HO} (h : H a = some o) (n : ¬ w.mu a) : ¬ w1.mu a := by
  obtain ⟨new, e, f⟩ := s.ι
  rintro (m | m)
  · rw [e] at m
    rcases List.mem_append.mp m with m | m
    · exact n (.inl m)
    · rw [f a m] at h; cases h
  · rw [s.av] at m
    exact n (.inr m)
theorem Stp.at_ (s : Stp w H w1 H1) {a : Addr} {o : HO} (h : H a = some o) (n : ¬ w.mu a) : H1 a = some o := s.keep a o h fun m => n (.inl m)
theorem Stp.rd (s : Stp w H w1 H1) {a : Addr} {u : HO} (h : Rd H a u) (n : ¬ w.mu a) : ¬ w1.mu a ∧ Rd H1 a u := by
  rcases h with h | ⟨o, h⟩
  · exact ⟨s.nmu h n, .inl (s.at_ h n)⟩
  · exact ⟨s.nmu h n, .inr ⟨o, s.at_ h n⟩⟩
theorem Stp.ix (s : Stp w H w1 H1) {i : Nat} {a : Addr} (h : w.ι[i]? = some a) : w1.ι[i]? = some a := by
  obtain ⟨new, e, _⟩ := s.ι
  rw [e, List.getElem?_append_left (List.getElem?_eq_some_iff.mp h).1]
  exact h
theorem Stp.gr (s : Stp w H w1 H1) : Gr w H w1 H1 := ⟨fun a o h n => ⟨s.nmu h n, s.at_ h n⟩, fun _ _ h => s.ix h⟩
theorem Gr.rd (s : Gr w H w1 H1) {a : Addr} {u : HO} (h : Rd H a u) (n : ¬ w.mu a) : ¬ w1.mu a ∧ Rd H1 a u := by
  rcases h with h | ⟨o, h⟩
  · exact ⟨(s.keep a _ h n).1, .inl (s.keep a _ h n).2⟩
  · exact ⟨(s.keep a _ h n).1, .inr ⟨o, (s.keep a _ h n).2⟩⟩
theorem SqLf.gr {K : PySem.W.Frag} {a : Addr} {xs : List V} (s : Gr w H w1 H1) (h : SqLf K w H a xs) : SqLf K w1 H1 a xs := h.elim (fun z => .inl (s.rd z.2 z.1)) .inr
theorem SqTf.gr {K : PySem.W.Frag} {kt : Bool} {a : Addr} {xs : List V} (s : Gr w H w1 H1) (h : SqTf K kt w H a xs) : SqTf K kt w1 H1 a xs := h.elim (fun z => .inl (s.keep a _ z.2 z.1)) .inr
mutual
theorem Rep.gr (s : Gr w H w1 H1) : ∀ (d : D) (v : V), Rep c w H d v → Rep c w1 H1 d v
  | .non, v, h => by simpa [Rep] using h
  | .bl _, v, h => by simpa [Rep] using h
  | .int _, v, h => by simpa [Rep] using h
  | .str _, v, h => by simpa [Rep] using h
  | .cls _, v, h => by simpa [Rep] using h
  | .dic ks vs, v, h => by
    simp only [Rep] at h ⊢
    obtain ⟨e, a, o, ns, e1, n, q, d, e2⟩ := h
    exact ⟨e, a, o, ns, e1, (s.keep a _ q n).1, (s.keep a _ q n).2, d, e2⟩
  | .ref i, v, h => by
    simp only [Rep] at h ⊢
    obtain ⟨a, e, h⟩ := h
    exact ⟨a, e, s.ix _ _ h⟩
  | .tup xs, v, h => by
    simp only [Rep] at h ⊢
    obtain ⟨a, vs, e, q, z, r⟩ := h
    exact ⟨a, vs, e, q.gr s, z, RepL.gr s xs vs r⟩
  | .lst xs, v, h => by
    simp only [Rep] at h ⊢
    obtain ⟨a, vs, e, q, z, r⟩ := h
    exact ⟨a, vs, e, q.gr s, z, RepL.gr s xs vs r⟩
  | .exc x fs, v, h => by
    simp only [Rep] at h ⊢
    obtain ⟨a, dd, e, n, q, r⟩ := h
    exact ⟨a, dd, e, (s.keep a _ q n).1, (s.keep a _ q n).2, RepX.gr s fs dd r⟩
theorem RepL.gr (s : Gr w H w1 H1) : ∀ (ds : List D) (vs : List V), RepL c w H ds vs → RepL c w1 H1 ds vs
  | [], vs, h => by simpa [RepL] using h
  | d :: ds, vs, h => by
    simp only [RepL] at h ⊢
    obtain ⟨v, r, e, h1, h2⟩ := h
    exact ⟨v, r, e, Rep.gr s d v h1, RepL.gr s ds r h2⟩
theorem RepX.gr (s : Gr w H w1 H1) : ∀ (fs : List D) (dd : Option Addr), RepX c w H fs dd → RepX c w1 H1 fs dd
  | [], dd, h => by simpa [RepX] using h
  | d :: ds, dd, h => by
    simp only [RepX] at h ⊢
    obtain ⟨e, a, v, e2, n, h1, h2⟩ := h
    exact ⟨e, a, v, e2, (s.keep a _ h1 n).1, (s.keep a _ h1 n).2, Rep.gr s d v h2⟩
end
abbrev Gk (w : Wd) (H : Hp) (w' : Wd) (H' : Hp) : Prop := ∀ (a : Addr) (o : HO), H a = some o → ¬ w.mu a → ¬ w'.mu a ∧ H' a = some o
theorem Gk.rd (s : Gk w H w1 H1) {a : Addr} {u : HO} (h : Rd H a u) (n : ¬ w.mu a) : ¬ w1.mu a ∧ Rd H1 a u := by
  rcases h with h | ⟨o, h⟩
  · exact ⟨(s a _ h n).1, .inl (s a _ h n).2⟩
  · exact ⟨(s a _ h n).1, .inr ⟨o, (s a _ h n).2⟩⟩
theorem SqTf.gk {K : PySem.W.Frag} {kt : Bool} {a : Addr} {xs : List V} (s : Gk w H w1 H1) (h : SqTf K kt w H a xs) : SqTf K kt w1 H1 a xs := h.elim (fun z => .inl (s a _ z.2 z.1)) .inr
theorem SqLf.gk {K : PySem.W.Frag} {a : Addr} {xs : List V} (s : Gk w H w1 H1) (h : SqLf K w H a xs) : SqLf K w1 H1 a xs := h.elim (fun z => .inl (Gk.rd s z.2 z.1)) .inr
mutual
theorem Rep.nr (s : Gk w H w1 H1) : ∀ (d : D) (v : V), noRef d = true → Rep c w H d v → Rep c w1 H1 d v
  | .non, v, _, h => by simpa [Rep] using h
  | .bl _, v, _, h => by simpa [Rep] using h
  | .int _, v, _, h => by simpa [Rep] using h
  | .str _, v, _, h => by simpa [Rep] using h
  | .cls _, v, _, h => by simpa [Rep] using h
  | .dic ks vs, v, _, h => by
    simp only [Rep] at h ⊢
    obtain ⟨e, a, o, ns, e1, n, q, d, e2⟩ := h
    exact ⟨e, a, o, ns, e1, (s a _ q n).1, (s a _ q n).2, d, e2⟩
  | .ref i, v, z, h => by simp [noRef] at z
  | .tup xs, v, z, h => by
    simp only [noRef] at z
    simp only [Rep] at h ⊢
    obtain ⟨a, vs, e, q, l, r⟩ := h
    exact ⟨a, vs, e, q.gk s, l, RepL.nr s xs vs z r⟩
  | .lst xs, v, z, h => by
    simp only [noRef] at z
    simp only [Rep] at h ⊢
    obtain ⟨a, vs, e, q, l, r⟩ := h
    exact ⟨a, vs, e, q.gk s, l, RepL.nr s xs vs z r⟩
  | .exc x fs, v, z, h => by
    simp only [noRef] at z
    simp only [Rep] at h ⊢
    obtain ⟨a, dd, e, n, q, r⟩ := h
    exact ⟨a, dd, e, (s a _ q n).1, (s a _ q n).2, RepX.nr s fs dd z r⟩
theorem RepL.nr (s : Gk w H w1 H1) : ∀ (ds : List D) (vs : List V), noRefL ds = true → RepL c w H ds vs → RepL c w1 H1 ds vs
  | [], vs, _, h => by simpa [RepL] using h
  | d :: ds, vs, z, h => by
    simp only [noRefL, Bool.and_eq_true] at z
    simp only [RepL] at h ⊢
    obtain ⟨v, r, e, h1, h2⟩ := h
    exact ⟨v, r, e, Rep.nr s d v z.1 h1, RepL.nr s ds r z.2 h2⟩
theorem RepX.nr (s : Gk w H w1 H1) : ∀ (fs : List D) (dd : Option Addr), noRefL fs = true → RepX c w H fs dd → RepX c w1 H1 fs dd
  | [], dd, _, h => by simpa [RepX] using h
  | d :: ds, dd, z, h => by
    simp only [noRefL, Bool.and_eq_true] at z
    simp only [RepX] at h ⊢
    obtain ⟨e, a, v, e2, n, h1, h2⟩ := h
    exact ⟨e, a, v, e2, (s a _ h1 n).1, (s a _ h1 n).2, Rep.nr s d v z.1 h2⟩
end
theorem Rep.mono (s : Stp w H w1 H1) (d : D) (v : V) (h : Rep c w H d v) : Rep c w1 H1 d v := Rep.gr s.gr d v h
theorem RepL.mono (s : Stp w H w1 H1) (d : List D) (v : List V) (h : RepL c w H d v) : RepL c w1 H1 d v := RepL.gr s.gr d v h
theorem RepX.mono (s : Stp w H w1 H1) (d : List D) (v : Option Addr) (h : RepX c w H d v) : RepX c w1 H1 d v := RepX.gr s.gr d v h
theorem RepS.gr (s : Gr w H w1 H1) {σ : Sl} {τ : L2.St} (h : RepS c w H σ τ) : RepS c w1 H1 σ τ := ⟨h.len, fun i d e => by
  obtain ⟨v, e1, r⟩ := h.at_ i d e
  exact ⟨v, e1, Rep.gr s d v r⟩⟩
theorem RepS.mono (s : Stp w H w1 H1) {σ : Sl} {τ : L2.St} (h : RepS c w H σ τ) : RepS c w1 H1 σ τ := h.gr s.gr
theorem RepS.set {σ : Sl} {τ : L2.St} (h : RepS c w H σ τ) {i : Nat} {d : D} {v : V} (r : Rep c w H d v) : RepS c w H (σ.set i (some d)) (τ.set i (some v)) := by
  refine ⟨by simpa using h.len, fun j e hj => ?_⟩
  by_cases hij : i = j
  · subst hij
    by_cases hl : i < σ.length
    · rw [List.getElem?_set_self hl] at hj
      cases hj
      exact ⟨v, List.getElem?_set_self (by rw [← h.len]; exact hl), r⟩
    · rw [List.getElem?_eq_none (by simpa using hl)] at hj; cases hj
  · rw [List.getElem?_set_ne hij] at hj
    rw [List.getElem?_set_ne hij]
    exact h.at_ j e hj
theorem RepS.unset {σ : Sl} {τ : L2.St} (h : RepS c w H σ τ) {i : Nat} : RepS c w H (σ.set i none) (τ.set i none) := by
  refine ⟨by simpa using h.len, fun j e hj => ?_⟩
  by_cases hij : i = j
  · subst hij
    by_cases hl : i < σ.length
    · rw [List.getElem?_set_self hl] at hj; cases hj
    · rw [List.getElem?_eq_none (by simpa using hl)] at hj; cases hj
  · rw [List.getElem?_set_ne hij] at hj
    rw [List.getElem?_set_ne hij]
    exact h.at_ j e hj
theorem RepL.len : ∀ {ds : List D} {vs : List V}, RepL c w H ds vs → ds.length = vs.length
  | [], vs, h => by simp only [RepL] at h; subst h; rfl
  | d :: ds, vs, h => by
    simp only [RepL] at h
    obtain ⟨v, r, rfl, _, h2⟩ := h
    simp [RepL.len h2]
theorem RepL.nil : RepL c w H [] [] := by simp [RepL]
theorem RepL.cons {d : D} {v : V} {ds : List D} {vs : List V} (h : Rep c w H d v) (r : RepL c w H ds vs) : RepL c w H (d :: ds) (v :: vs) := by
  simp only [RepL]; exact ⟨v, vs, rfl, h, r⟩
theorem RepL.uncons {d : D} {ds : List D} {vs : List V} (h : RepL c w H (d :: ds) vs) : ∃ v r, vs = v :: r ∧ Rep c w H d v ∧ RepL c w H ds r := by simpa only [RepL] using h
theorem RepL.get : ∀ {ds : List D} {vs : List V} {i : Nat} {d : D}, RepL c w H ds vs → ds[i]? = some d → ∃ v, vs[i]? = some v ∧ Rep c w H d v
  | [], _, _, _, _, e => by simp at e
  | x :: ds, vs, 0, d, h, e => by
    obtain ⟨v, r, rfl, h1, h2⟩ := h.uncons
    simp at e; subst e
    exact ⟨v, rfl, h1⟩
  | x :: ds, vs, i + 1, d, h, e => by
    obtain ⟨v, r, rfl, h1, h2⟩ := h.uncons
    simp at e
    obtain ⟨u, e1, h3⟩ := RepL.get h2 e
    exact ⟨u, by simpa using e1, h3⟩
theorem RepL.append : ∀ {ds es : List D} {vs us : List V}, RepL c w H ds vs → RepL c w H es us → RepL c w H (ds ++ es) (vs ++ us)
  | [], es, vs, us, h, g => by simp only [RepL] at h; subst h; simpa using g
  | d :: ds, es, vs, us, h, g => by
    obtain ⟨v, r, rfl, h1, h2⟩ := h.uncons
    exact RepL.cons h1 (RepL.append h2 g)
theorem RepL.take : ∀ {ds : List D} {vs : List V} (n : Nat), RepL c w H ds vs → RepL c w H (ds.take n) (vs.take n)
  | _, _, 0, _ => by simpa using RepL.nil
  | [], vs, n + 1, h => by simp only [RepL] at h; subst h; simpa using RepL.nil
  | d :: ds, vs, n + 1, h => by
    obtain ⟨v, r, rfl, h1, h2⟩ := h.uncons
    simpa using RepL.cons h1 (RepL.take n h2)
theorem RepL.drop : ∀ {ds : List D} {vs : List V} (n : Nat), RepL c w H ds vs → RepL c w H (ds.drop n) (vs.drop n)
  | _, _, 0, h => by simpa using h
  | [], vs, n + 1, h => by simp only [RepL] at h; subst h; simpa using RepL.nil
  | d :: ds, vs, n + 1, h => by
    obtain ⟨v, r, rfl, h1, h2⟩ := h.uncons
    simpa using RepL.drop n h2
theorem RepL.set : ∀ {ds : List D} {vs : List V} (n : Nat) {d : D} {v : V}, RepL c w H ds vs → Rep c w H d v → RepL c w H (ds.set n d) (vs.set n v)
  | [], vs, n, d, v, h, g => by simp only [RepL] at h; subst h; simpa using RepL.nil
  | x :: ds, vs, 0, d, v, h, g => by
    obtain ⟨u, r, rfl, h1, h2⟩ := h.uncons
    simpa using RepL.cons g h2
  | x :: ds, vs, n + 1, d, v, h, g => by
    obtain ⟨u, r, rfl, h1, h2⟩ := h.uncons
    simpa using RepL.cons h1 (RepL.set n h2 g)
theorem RepL.reverse {ds : List D} {vs : List V} (h : RepL c w H ds vs) : RepL c w H ds.reverse vs.reverse := by
  induction ds generalizing vs with
  | nil => simp only [RepL] at h; subst h; simpa using RepL.nil
  | cons d ds ih =>
    obtain ⟨v, r, rfl, h1, h2⟩ := h.uncons
    simpa using RepL.append (ih h2) (RepL.cons h1 RepL.nil)
theorem RepL.dropLast {ds : List D} {vs : List V} (h : RepL c w H ds vs) : RepL c w H ds.dropLast vs.dropLast := by
  have := h.len
  rw [List.dropLast_eq_take, List.dropLast_eq_take, this]
  exact RepL.take _ h
theorem Stp.laid {p : Addr} {o : HO} (hp : H p = none) : Stp w H w (upd H p o) := by
  refine ⟨rfl, ⟨[], by simp, by simp⟩, fun b u h _ => ?_, fun b h => ?_, fun b x u h => ?_⟩
  · rw [upd_ne (fun z => by rw [z, hp] at h; cases h)]; exact h
  · by_cases e : b = p
    · subst e; rw [upd_same]; simp
    · rw [upd_ne e]; exact h
  · rw [upd_ne (fun z => by rw [z, hp] at h; cases h)]; exact h
theorem RepO.gr (s : Gr w H w1 H1) {a : Addr} {mo : MO} (h : RepO c w H a mo) (k : ∀ o, H a = some o → H1 a = some o) : RepO c w1 H1 a mo := by
  cases mo with
  | lst xs =>
    obtain ⟨vs, e, z, r⟩ := h
    exact ⟨vs, k _ e, z, RepL.gr s _ _ r⟩
  | dic t ks vs =>
    obtain ⟨l, z, h⟩ := h
    refine ⟨l, z, ?_⟩
    cases t with
    | one =>
      obtain ⟨kvs, e, n, e2, r1, r2⟩ := h
      exact ⟨kvs, k _ e, n, e2, RepL.gr s _ _ r1, RepL.gr s _ _ r2⟩
    | tup =>
      obtain ⟨kvs, xs, e, sm, kn, n, ki, e2, r1, r2⟩ := h
      exact ⟨kvs, xs, k _ e, sm, kn, n, ki, e2, fun q hq => Rep.gr s _ _ (r1 q hq), RepL.gr s _ _ r2⟩
    | two =>
      obtain ⟨kvs, e, n, e2, r1, r2⟩ := h
      exact ⟨kvs, k _ e, n, e2, fun p hp => ⟨(r1 p hp).1, RepL.gr s _ _ (r1 p hp).2⟩, RepL.gr s _ _ r2⟩
  | lck ks vs =>
    obtain ⟨l, z, o, kvs, e, n, e2, r1, r2⟩ := h
    exact ⟨l, z, o, kvs, k _ e, n, e2, RepL.gr s _ _ r1, RepL.gr s _ _ r2⟩
  | obj x fs =>
    obtain ⟨dx, fv, e, e2, e3, r⟩ := h
    exact ⟨dx, fv, k _ e, e2, e3, RepL.gr s _ _ r⟩
theorem RepO.mono (s : Stp w H w1 H1) {a : Addr} {mo : MO} (h : RepO c w H a mo) (k : ∀ o, H a = some o → H1 a = some o) : RepO c w1 H1 a mo := h.gr s.gr k
theorem RepO.some {a : Addr} {mo : MO} (h : RepO c w H a mo) : ∃ o, H a = some o ∧ IsMut o := by
  cases mo with
  | lst xs => obtain ⟨vs, e, _⟩ := h; exact ⟨_, e, trivial⟩
  | dic t ks vs =>
    obtain ⟨_, _, h⟩ := h
    cases t with
    | one => obtain ⟨kvs, e, _⟩ := h; exact ⟨_, e, trivial⟩
    | tup => obtain ⟨kvs, xs, e, _⟩ := h; exact ⟨_, e, trivial⟩
    | two => obtain ⟨kvs, e, _⟩ := h; exact ⟨_, e, trivial⟩
  | lck ks vs => obtain ⟨_, _, o, kvs, e, _⟩ := h; exact ⟨_, e, trivial⟩
  | obj x fs => obtain ⟨dx, fv, e, _⟩ := h; exact ⟨_, e, trivial⟩
section
variable {M M1 : Hh}
theorem Sim.mu_some (S : Sim c w M H) {a : Addr} (m : w.mu a) : ∃ o, H a = some o ∧ IsMut o := by
  rcases m with m | m
  · obtain ⟨i, hi, e⟩ := List.mem_iff_getElem.mp m
    have hM : i < M.length := by rw [← S.len]; exact hi
    exact (S.cell i a M[i] (by rw [List.getElem?_eq_getElem hi, e]) (List.getElem?_eq_getElem hM)).some
  · exact (S.av a m).2
theorem Sim.mono (S : Sim c w M H) (s : Stp w H w H1) (k : ∀ a ∈ w.ι, ∀ o, H a = some o → H1 a = some o) : Sim c w M H1 := by
  refine ⟨S.len, S.nd, fun a h => ?_, fun i a mo e1 e2 => ?_, fun j d e => ⟨(S.gl j d e).1, Rep.mono s _ _ (S.gl j d e).2⟩⟩
  · obtain ⟨n, o, e, m⟩ := S.av a h
    exact ⟨n, o, s.keep a o e n, m⟩
  · exact (S.cell i a mo e1 e2).mono s (k a (List.mem_of_getElem? e1))
theorem Sim.laid (S : Sim c w M H) {p : Addr} {o : HO} (hp : H p = none) : Sim c w M (upd H p o) :=
  S.mono (Stp.laid hp) fun a _ u e => by rw [upd_ne (fun z => by rw [z, hp] at e; cases e)]; exact e
theorem Sim.fresh (S : Sim c w M H) {p : Addr} (hp : H p = none) : ¬ w.mu p := fun m => by
  obtain ⟨o, e, _⟩ := S.mu_some m
  rw [hp] at e; cases e
def Wd.push (w : Wd) (p : Addr) : Wd := ⟨w.av, w.ι ++ [p]⟩
theorem Stp.push {p : Addr} {o : HO} (hp : H p = none) : Stp w H (w.push p) (upd H p o) := by
  refine ⟨rfl, ⟨[p], rfl, by simpa using hp⟩, fun b u h _ => ?_, fun b h => ?_, fun b x u h => ?_⟩
  · rw [upd_ne (fun z => by rw [z, hp] at h; cases h)]; exact h
  · by_cases e : b = p
    · subst e; rw [upd_same]; simp
    · rw [upd_ne e]; exact h
  · rw [upd_ne (fun z => by rw [z, hp] at h; cases h)]; exact h
theorem Sim.push (S : Sim c w M H) {p : Addr} {o : HO} {mo : MO} (hp : H p = none) (h : RepO c (w.push p) (upd H p o) p mo) : Sim c (w.push p) (M ++ [mo]) (upd H p o) := by
  have hn := S.fresh hp
  have s : Stp w H (w.push p) (upd H p o) := Stp.push hp
  refine ⟨by simp [Wd.push, S.len], ?_, fun a ha => ?_, fun i a x e1 e2 => ?_, fun j d e => ⟨(S.gl j d e).1, Rep.mono s _ _ (S.gl j d e).2⟩⟩
  · refine List.nodup_append.mpr ⟨S.nd, by simp, fun a ha b hb e => ?_⟩
    have : b = p := by simpa using hb
    subst this; subst e
    exact hn (.inl ha)
  · obtain ⟨n, u, e, m⟩ := S.av a ha
    have ne : a ≠ p := fun z => by rw [z, hp] at e; cases e
    refine ⟨fun z => ?_, u, by rw [upd_ne ne]; exact e, m⟩
    rcases List.mem_append.mp z with z | z
    · exact n z
    · exact ne (by simpa using z)
  · by_cases hi : i < w.ι.length
    · have e1' : w.ι[i]? = some a := by
        have e3 : (w.ι ++ [p])[i]? = some a := e1
        rwa [List.getElem?_append_left hi] at e3
      have e2' : M[i]? = some x := by rwa [List.getElem?_append_left (by rw [← S.len]; exact hi)] at e2
      have q := S.cell i a x e1' e2'
      refine q.mono s fun u e => ?_
      rw [upd_ne (fun z => by rw [z, hp] at e; cases e)]; exact e
    · have hi2 : i = w.ι.length := by
        have h1 : i < (w.ι ++ [p]).length := (List.getElem?_eq_some_iff.mp (show (w.ι ++ [p])[i]? = some a from e1)).1
        simp at h1; omega
      subst hi2
      have e3 : (w.ι ++ [p])[w.ι.length]? = some a := e1
      rw [List.getElem?_concat_length] at e3
      rw [S.len, List.getElem?_concat_length] at e2
      cases e3; cases e2
      exact h
def NF (o : HO) : Prop := match o with
  | .frz _ _ => False
  | _ => True
theorem nf {a : Addr} {o : HO} (e : H a = some o) (t : NF o) : ∀ x u, H a ≠ some (.frz x u) := fun x u z => by
  rw [e] at z
  cases z
  exact t
theorem Stp.write {i : Nat} {a : Addr} {o : HO} (hi : w.ι[i]? = some a) (hn : ∀ x u, H a ≠ some (.frz x u)) : Stp w H w (upd H a o) := by
  refine ⟨rfl, ⟨[], by simp, by simp⟩, fun b u h hb => ?_, fun b h => ?_, fun b x u h => by
    rw [upd_ne (fun z => by rw [z] at h; exact hn _ _ h)]
    exact h⟩
  · rw [upd_ne (fun z => hb (by rw [z]; exact List.mem_of_getElem? hi))]; exact h
  · by_cases e : b = a
    · subst e; rw [upd_same]; simp
    · rw [upd_ne e]; exact h
theorem Sim.write (S : Sim c w M H) {i : Nat} {a : Addr} {o : HO} {mo : MO} (hi : w.ι[i]? = some a) (h : RepO c w (upd H a o) a mo) : Sim c w (M.set i mo) (upd H a o) := by
  have keep : ∀ b u, H b = some u → b ∉ w.ι → upd H a o b = some u := fun b u h hb => by
    rw [upd_ne (fun z => hb (by rw [z]; exact List.mem_of_getElem? hi))]; exact h
  have g : Gr w H w (upd H a o) := ⟨fun b u e n => ⟨n, keep b u e fun m => n (.inl m)⟩, fun _ _ e => e⟩
  refine ⟨by simp [S.len], S.nd, fun b hb => ?_, fun j b x e1 e2 => ?_, fun j d e => ⟨(S.gl j d e).1, Rep.gr g _ _ (S.gl j d e).2⟩⟩
  · obtain ⟨n, u, e, m⟩ := S.av b hb
    exact ⟨n, u, keep b u e n, m⟩
  · by_cases hj : j = i
    · subst hj
      rw [hi] at e1; cases e1
      have hlt : j < M.length := by rw [← S.len]; exact (List.getElem?_eq_some_iff.mp hi).1
      rw [List.getElem?_set_self hlt] at e2
      cases e2
      exact h
    · rw [List.getElem?_set_ne (Ne.symm hj)] at e2
      refine (S.cell j b x e1 e2).gr g fun u e => ?_
      have hne : b ≠ a := fun z => by
        subst z
        obtain ⟨h1, e3⟩ := List.getElem?_eq_some_iff.mp e1
        obtain ⟨h2, e4⟩ := List.getElem?_eq_some_iff.mp hi
        exact hj ((List.getElem_inj S.nd).mp (e3.trans e4.symm))
      rw [upd_ne hne]; exact e
end
end
end Fw
namespace Fw
open PySem PySem.Spec PyProof.Rows L2
section
variable {c : Ct} {α β γ δ : Type}
def OkG (c : Ct) (R : Wd → Hp → α → β → Prop) (w : Wd) (H : Hp) (r : Out α) (Q : β → Hp → Prop) (E : XK) : Prop := match r with
  | .ok a M' => ∀ w' H' v, Stp w H w' H' → Sim c w' M' H' → R w' H' a v → Q v H'
  | .exn x fs M' => ∀ w' H' dd, Stp w H w' H' → Sim c w' M' H' → RepX c w' H' fs dd → E (.ref (c.ca x)) dd H'
  | .bad => False
theorem OkG.lift {R : Wd → Hp → α → β → Prop} {w w1 : Wd} {H H1 : Hp} {r : Out α} {Q : β → Hp → Prop} {E : XK} (h : OkG c R w H r Q E) (s : Stp w H w1 H1) : OkG c R w1 H1 r Q E := by
  cases r with
  | ok a M => exact fun w' H' v s' S r => h w' H' v (s.trans s') S r
  | exn x fs M => exact fun w' H' dd s' S r => h w' H' dd (s.trans s') S r
  | bad => exact h
theorem OkG.imp {R : Wd → Hp → α → β → Prop} {w : Wd} {H : Hp} {r : Out α} {Q Q' : β → Hp → Prop} {E E' : XK} (h : OkG c R w H r Q E) (q : ∀ v H', Q v H' → Q' v H') (e : ∀ cls d H', E cls d H' → E' cls d H') : OkG c R w H r Q' E' := by
  cases r with
  | ok a M => exact fun w' H' v s' S r => q _ _ (h w' H' v s' S r)
  | exn x fs M => exact fun w' H' dd s' S r => e _ _ _ (h w' H' dd s' S r)
  | bad => exact h
theorem OkG.bind {R : Wd → Hp → β → δ → Prop} {R' : Wd → Hp → α → γ → Prop} {w : Wd} {H : Hp} {r : Out α} {f : α → Hh → Out β} {Q : δ → Hp → Prop} {E : XK} (h : OkG c R w H (r.bind f) Q E) :
    OkG c R' w H r (fun v H1 => ∃ w1 M1 a, Stp w H w1 H1 ∧ Sim c w1 M1 H1 ∧ R' w1 H1 a v ∧ OkG c R w1 H1 (f a M1) Q E) E := by
  cases r with
  | ok a M => exact fun w' H' v s' S r => ⟨w', M, a, s', S, r, OkG.lift h s'⟩
  | exn x fs M => exact fun w' H' dd s' S r => h w' H' dd s' S r
  | bad => exact h
theorem OkG.ret {R : Wd → Hp → α → β → Prop} {w : Wd} {H : Hp} {a : α} {M : Hh} {Q : β → Hp → Prop} {E : XK} (h : OkG c R w H (.ok a M) Q E) (S : Sim c w M H) {v : β} (r : R w H a v) : Q v H := h w H v Stp.refl S r
end
structure CxOk (c : Ct) (N : List Str) (sc : Scope) (X : Cx) : Prop where
  K : X.K = c.K
  hN : X.N = N
  nd : N.Nodup
  sc : X.env.scope = sc
  calm : X.calm = true
theorem _root_.L2.PE.weak {X : Cx} {e : Expr} {t t' : TE} (h : PE X e t) (k : ∀ σ H Q, t' σ H Q → t σ H Q) : PE X e t' := ⟨fun pins s σ H Q I q => h.run pins s σ H Q I (k _ _ _ q)⟩
theorem _root_.L2.PT.weak {X : Cx} {e : Expr} {t t' : TT} (h : PT X e t) (k : ∀ σ H Q, t' σ H Q → t σ H Q) : PT X e t' := ⟨fun pins s σ H Q I q => h.run pins s σ H Q I (k _ _ _ q)⟩
theorem _root_.L2.PA.weak {X : Cx} {e : List Expr} {t t' : TA} (h : PA X e t) (k : ∀ σ H Q, t' σ H Q → t σ H Q) : PA X e t' := ⟨fun pos pins s σ H Q I q => h.run pos pins s σ H Q I (k _ _ _ q)⟩
theorem _root_.L2.PS.weak {X : Cx} {e : Stmt} {t t' : TS} (h : PS X e t) (k : ∀ D σ H, t' D σ H → t D σ H) : PS X e t' := ⟨fun pins s σ H D I q => h.run pins s σ H D I (k _ _ _ q)⟩
theorem _root_.L2.PSs.weak {X : Cx} {e : List Stmt} {t t' : TS} (h : PSs X e t) (k : ∀ D σ H, t' D σ H → t D σ H) : PSs X e t' := ⟨fun pins s σ H D I q => h.run pins s σ H D I (k _ _ _ q)⟩
def tE (c : Ct) (W : WX) (f : Sl → Hh → Out D) : TE := fun τ H Q => ∃ w M σ, Sim c w M H ∧ RepS c w H σ τ ∧ OkG c (Rep c) w H (f σ M) Q (fun cls d H' => W cls d τ H')
def tL (c : Ct) (W : WX) (f : Sl → Hh → Out (List D)) : TA := fun τ H Q => ∃ w M σ, Sim c w M H ∧ RepS c w H σ τ ∧ OkG c (RepL c) w H (f σ M) Q (fun cls d H' => W cls d τ H')
theorem tE.imp {c : Ct} {W : WX} {f : Sl → Hh → Out D} {τ : L2.St} {H : Hp} {Q Q' : VK} (h : tE c W f τ H Q) (q : ∀ v H', Q v H' → Q' v H') : tE c W f τ H Q' := by
  obtain ⟨w, M, σ, S, RS, h⟩ := h
  exact ⟨w, M, σ, S, RS, h.imp q fun _ _ _ z => z⟩
theorem tL.imp {c : Ct} {W : WX} {f : Sl → Hh → Out (List D)} {τ : L2.St} {H : Hp} {Q Q' : List V → Hp → Prop} (h : tL c W f τ H Q) (q : ∀ v H', Q v H' → Q' v H') : tL c W f τ H Q' := by
  obtain ⟨w, M, σ, S, RS, h⟩ := h
  exact ⟨w, M, σ, S, RS, h.imp q fun _ _ _ z => z⟩
section
variable {c : Ct} {W : WX} {τ : L2.St} {w : Wd} {M : Hh} {H : Hp} {σ : Sl} {β δ : Type}
theorem nxt {R : Wd → Hp → β → δ → Prop} {g : Sl → Hh → Out D} {f : D → Hh → Out β} {Q : δ → Hp → Prop} (S : Sim c w M H) (RS : RepS c w H σ τ)
    (h : OkG c R w H ((g σ M).bind f) Q (fun cls d H' => W cls d τ H')) :
    tE c W g τ H fun v H1 => ∃ w1 M1 d, Stp w H w1 H1 ∧ Sim c w1 M1 H1 ∧ RepS c w1 H1 σ τ ∧ Rep c w1 H1 d v ∧ OkG c R w1 H1 (f d M1) Q (fun cls d H' => W cls d τ H') :=
  ⟨w, M, σ, S, RS, (OkG.bind (R' := Rep c) h).imp (fun v H1 ⟨w1, M1, d, s, S1, r, q⟩ => ⟨w1, M1, d, s, S1, RS.mono s, r, q⟩) fun _ _ _ z => z⟩
theorem nxtL {R : Wd → Hp → β → δ → Prop} {g : Sl → Hh → Out (List D)} {f : List D → Hh → Out β} {Q : δ → Hp → Prop} (S : Sim c w M H) (RS : RepS c w H σ τ)
    (h : OkG c R w H ((g σ M).bind f) Q (fun cls d H' => W cls d τ H')) :
    tL c W g τ H fun v H1 => ∃ w1 M1 d, Stp w H w1 H1 ∧ Sim c w1 M1 H1 ∧ RepS c w1 H1 σ τ ∧ RepL c w1 H1 d v ∧ OkG c R w1 H1 (f d M1) Q (fun cls d H' => W cls d τ H') :=
  ⟨w, M, σ, S, RS, (OkG.bind (R' := RepL c) h).imp (fun v H1 ⟨w1, M1, d, s, S1, r, q⟩ => ⟨w1, M1, d, s, S1, RS.mono s, r, q⟩) fun _ _ _ z => z⟩
end
def rV1 (c : Ct) (k : D → Hh → Out D) : V → Hp → VK → Prop := fun x H Q => ∃ w M d E, Sim c w M H ∧ Rep c w H d x ∧ OkG c (Rep c) w H (k d M) Q E
def rV2 (c : Ct) (k : D → D → Hh → Out D) : R2 := fun x y H Q => ∃ w M d e E, Sim c w M H ∧ Rep c w H d x ∧ Rep c w H e y ∧ OkG c (Rep c) w H (k d e M) Q E
def rVn (c : Ct) (k : List D → Hh → Out D) : List V → Hp → VK → Prop := fun vs H Q => ∃ w M ds E, Sim c w M H ∧ RepL c w H ds vs ∧ OkG c (Rep c) w H (k ds M) Q E
def rVm (c : Ct) (k : D → List D → Hh → Out D) : V → List V → Hp → VK → Prop := fun x vs H Q => ∃ w M d ds E, Sim c w M H ∧ Rep c w H d x ∧ RepL c w H ds vs ∧ OkG c (Rep c) w H (k d ds M) Q E
section
variable {c : Ct} {w : Wd} {M : Hh} {H : Hp}
theorem rep_int {i : Int} {v : V} : Rep c w H (.int i) v ↔ v = .int i := by simp [Rep]
theorem rep_bl {i : Bool} {v : V} : Rep c w H (.bl i) v ↔ v = .bl i := by simp [Rep]
theorem rep_non {v : V} : Rep c w H .non v ↔ v = .non := by simp [Rep]
theorem rep_str {l : List Nat} {v : V} : Rep c w H (.str l) v ↔ v = .str ⟨l.toArray⟩ ∧ l.length ≤ sizeLine ∧ ∀ x ∈ l, x < 1114112 := by simp [Rep]
theorem rep_tup {xs : List D} {v : V} : Rep c w H (.tup xs) v ↔ ∃ a vs, v = .ref a ∧ SqTf c.K c.kt w H a vs ∧ xs.length ≤ sizeLine ∧ RepL c w H xs vs := by simp [Rep]
theorem rep_lst {xs : List D} {v : V} : Rep c w H (.lst xs) v ↔ ∃ a vs, v = .ref a ∧ SqLf c.K w H a vs ∧ xs.length ≤ sizeLine ∧ RepL c w H xs vs := by simp [Rep]
theorem rep_ref {i : Nat} {v : V} : Rep c w H (.ref i) v ↔ ∃ a, v = .ref a ∧ w.ι[i]? = some a := by simp [Rep]
theorem rep_exc {x : Nat} {fs : List D} {v : V} : Rep c w H (.exc x fs) v ↔ ∃ a dd, v = .ref a ∧ ¬ w.mu a ∧ H a = some (ExT (.ref (c.ca x)) dd a) ∧ RepX c w H fs dd := by simp [Rep]
theorem rep_cls {x : Nat} {v : V} : Rep c w H (.cls x) v ↔ v = .ref (c.ca x) := by simp [Rep]
theorem rep_dic {x y : List D} {v : V} : Rep c w H (.dic x y) v ↔ x = [] ∧ ∃ (a : Addr) (o : Obj) (ns : List Int), v = .ref a ∧ ¬ w.mu a ∧ H a = some (.frz o (.tup (ns.map V.int))) ∧ o.dict = none ∧ y = ns.map D.int := by simp [Rep]
theorem at_ref {i : Nat} {xs : List D} (h : (match M[i]? with | some (.lst xs) => some xs | _ => none) = some xs) : M[i]? = some (.lst xs) := by
  split at h
  · rename_i ys e
    cases h
    exact e
  · cases h
theorem lstOf_ok (S : Sim c w M H) {d : D} {xs : List D} {v : V} (h : lstOf M d = some xs) (r : Rep c w H d v) : ∃ a vs, v = .ref a ∧ SqL c.K H a vs ∧ xs.length ≤ sizeLine ∧ RepL c w H xs vs := by
  cases d with
  | lst ys =>
    simp only [lstOf, Option.some.injEq] at h; subst h
    obtain ⟨a, vs, e, q, z, r⟩ := rep_lst.mp r
    exact ⟨a, vs, e, q.sq, z, r⟩
  | ref i =>
    obtain ⟨a, e, hi⟩ := rep_ref.mp r
    obtain ⟨vs, e2, z, r2⟩ := S.cell i a (.lst xs) hi (at_ref h)
    exact ⟨a, vs, e, .of e2, z, r2⟩
  | _ => simp [lstOf] at h
theorem seqOf_ok (S : Sim c w M H) {d : D} {xs : List D} {v : V} (h : seqOf M d = some xs) (r : Rep c w H d v) :
    ∃ a vs, v = .ref a ∧ (SqL c.K H a vs ∨ SqT c.K H a vs) ∧ xs.length ≤ sizeLine ∧ RepL c w H xs vs := by
  cases d with
  | tup ys =>
    simp only [seqOf, Option.some.injEq] at h; subst h
    obtain ⟨a, vs, e, q, z, r⟩ := rep_tup.mp r
    exact ⟨a, vs, e, .inr q.sq, z, r⟩
  | lst ys =>
    obtain ⟨a, vs, e, q, z, r⟩ := lstOf_ok S (show lstOf M (.lst ys) = some xs from h) r
    exact ⟨a, vs, e, .inl q, z, r⟩
  | ref i =>
    obtain ⟨a, vs, e, q, z, r⟩ := lstOf_ok S (show lstOf M (.ref i) = some xs from h) r
    exact ⟨a, vs, e, .inl q, z, r⟩
  | _ => simp [seqOf] at h
theorem mkL_ok {m : Bool} {xs : List D} {vs : List V} {Q : VK} {E : XK} (S : Sim c w M H) (r : RepL c w H xs vs) (z : xs.length ≤ sizeLine) (h : OkG c (Rep c) w H (mkL m xs M) Q E) :
    ∀ p, H p = none → Q (.ref p) (upd H p (.lst vs)) := fun p hp => by
  cases m with
  | false =>
    have s : Stp w H w (upd H p (.lst vs)) := Stp.laid hp
    exact h w _ _ s (S.laid hp) (rep_lst.mpr ⟨p, vs, rfl, .inl ⟨S.fresh hp, .inl upd_same⟩, z, RepL.mono s _ _ r⟩)
  | true =>
    have s : Stp w H (w.push p) (upd H p (.lst vs)) := Stp.push hp
    refine h (w.push p) _ _ s (S.push hp ⟨vs, upd_same, z, RepL.mono s _ _ r⟩) (rep_ref.mpr ⟨p, rfl, ?_⟩)
    show (w.ι ++ [p])[M.length]? = some p
    rw [← S.len]
    exact List.getElem?_concat_length
theorem mkT_ok {xs : List D} {vs : List V} {Q : VK} {E : XK} (S : Sim c w M H) (r : RepL c w H xs vs) (z : xs.length ≤ sizeLine) (h : OkG c (Rep c) w H (.ok (.tup xs) M) Q E) :
    ∀ p, H p = none → Q (.ref p) (upd H p (.tup vs)) := fun p hp => by
  have s : Stp w H w (upd H p (.tup vs)) := Stp.laid hp
  exact h w _ _ s (S.laid hp) (rep_tup.mpr ⟨p, vs, rfl, .inl ⟨S.fresh hp, upd_same⟩, z, RepL.mono s _ _ r⟩)
end
def pyOp : BOp → Operator
  | .add => .Add | .sub => .Sub | .mul => .Mult | .fdiv => .FloorDiv | .mod => .Mod | .pow => .Pow | .shr => .RShift | .band => .BitAnd
section
variable {X : Cx}
theorem op_catL : OpR X (binaryOp .Add) (fun x y H Q => ∃ l b xs zs, x = .ref l ∧ y = .ref b ∧ SqL X.K H l xs ∧ SqL X.K H b zs ∧ xs.length + zs.length ≤ sizeLine ∧ ∀ p, H p = none → Q (.ref p) (upd H p (.lst (xs ++ zs)))) := by
  intro pins s σ H x y v u Q I rx ry h
  obtain ⟨l, b, xs, zs, rfl, rfl, hH, hB, hz, q⟩ := h
  cases rx
  cases ry
  obtain ⟨its, r, p1, z1⟩ := I.list hH
  obtain ⟨its2, r2, p2, z2⟩ := I.list hB
  have hl := r.length
  have hl2 := r2.length
  obtain ⟨⟨cls, dd, data, sl⟩, ho, hc, n, hd⟩ := p1.isList
  obtain ⟨⟨cls2, dd2, data2, sl2⟩, ho2, hc2, n2, hd2⟩ := p2.isList
  simp only at hc hd hc2 hd2
  subst hc hd hc2 hd2
  have e : its.toArray ++ its2.toArray = (its ++ its2).toArray := by simp
  refine concat_meets ⟨_, ho, rfl⟩ ⟨_, ho2, rfl⟩ noFill_list_add seq_list_add PySem.F.slot_list_add PySem.F.entry_list_add (PySem.F.args_list_add_2 _ _) (list_addW l b its.toArray its2.toArray n n2 dd dd2 sl sl2 (by rw [List.size_toArray, List.size_toArray]; omega)) ⟨ho, ho2, ?_⟩
  rw [e]
  exact ⟨.ref _, _, I.lnew (t' := s.toks) (r.append r2) (by rw [List.length_append]; omega), rfl, q _ I.fresh⟩
theorem vals_flat {xs : List V} {us : List Value} (r : Vals xs us) (k : Nat) : Vals (List.replicate k xs).flatten (List.replicate k us).flatten := Vals.rep r k
theorem repL_flat {c : Ct} {w : Wd} {H : Hp} {xs : List D} {vs : List V} (r : RepL c w H xs vs) : ∀ k : Nat, RepL c w H (List.replicate k xs).flatten (List.replicate k vs).flatten
  | 0 => by simpa using RepL.nil
  | k + 1 => by simpa [List.replicate_succ] using RepL.append r (repL_flat r k)
theorem foldl_repA (l : List Nat) : ∀ (m : Nat) (acc : Array Nat), (List.replicate m l.toArray).foldl (fun x1 x2 => x1 ++ x2) acc = acc ++ ((List.replicate m l).flatten).toArray
  | 0, acc => by simp
  | m + 1, acc => by
    rw [List.replicate_succ, List.foldl_cons, foldl_repA l m, List.replicate_succ, List.flatten_cons]
    simp
theorem op_strmul : OpR X (binaryOp .Mult) (fun x y H Q => ∃ (l : List Nat) (k : Int), x = .str ⟨l.toArray⟩ ∧ y = .int k ∧ 0 ≤ k ∧ k ≤ 1000000 ∧ l.length * k.toNat ≤ sizeLine ∧ Q (.str ⟨((List.replicate k.toNat l).flatten).toArray⟩) H) := by
  intro pins s σ H x y v u Q I rx ry h
  obtain ⟨l, k, rfl, rfl, h0, h1, hz, q⟩ := h
  obtain ⟨t, rfl⟩ := rx
  obtain ⟨t2, rfl⟩ := ry
  have hlen : (⟨l.toArray⟩ : Str).length = l.length := by simp [Str.length]
  have hz2 := hz
  rw [sizeLine_eq] at hz2
  have tl : ∀ n : Nat, n ≤ sizeLine → Builtin.Str.tooLong n = false := fun n hn => by
    rw [sizeLine_eq] at hn
    unfold Builtin.Str.tooLong
    rw [sizeLine_eq]
    exact decide_eq_false (by omega)
  refine PySem.P.mul_str ?_ ?_ ?_ ?_
  · rw [decide_eq_false (by omega), decide_eq_false (by omega)] <;> rfl
  · intro hn he
    rw [hlen]
    have hk : 1 ≤ k.toNat := by omega
    have e0 : (l.length : Int) * k ≤ 2 ^ 63 - 1 := by
      have e1 : (l.length : Int) * k = ((l.length * k.toNat : Nat) : Int) := by rw [Int.natCast_mul, Int.toNat_of_nonneg h0]
      rw [e1]
      omega
    have := Int.le_ediv_of_mul_le (by omega : (0 : Int) < k) e0
    omega
  · intro hn he
    rw [hlen]
    exact tl _ hz
  · split
    · rename_i hk
      have : k = 0 := by omega
      subst this
      refine ⟨Nat.zero_le _, .str _, H, I.tok _, ⟨_, rfl⟩, ?_⟩
      exact q
    · rename_i hk
      split
      · rename_i he
        refine ⟨.str _, H, I, ⟨_, rfl⟩, ?_⟩
        have e : (List.replicate k.toNat l).flatten = l := by
          rw [hlen, Bool.or_eq_true] at he
          rcases he with he | he
          · have : k = 1 := by simpa using he
            subst this
            simp
          · have : l = [] := List.eq_nil_of_length_eq_zero (by simpa using he)
            subst this
            simp
        rw [e] at q
        exact q
      · have e := foldl_repA l k.toNat #[]
        refine ⟨?_, .str _, H, I.tok _, ⟨_, rfl⟩, ?_⟩
        · rw [e]
          simp only [Str.length, Array.size_append, List.size_toArray, Array.size_empty, Nat.zero_add]
          rw [PyProof.Rows.lm_len_rep_flat, Nat.mul_comm]
          simpa using hz
        · rw [e]
          simpa using q
theorem op_repTW : OpR X (binaryOp .Mult) (fun x y H Q => ∃ l k xs, x = .ref l ∧ y = .int k ∧ SqT X.K H l xs ∧ xs ≠ [] ∧ 2 ≤ k ∧ k ≤ 4000 ∧ xs.length ≤ 1000 ∧ ∀ p, H p = none → Q (.ref p) (upd H p (.tup (List.replicate k.toNat xs).flatten))) := by
  intro pins s σ H x y v u Q I rx ry h
  obtain ⟨l, k, xs, rfl, rfl, hT, hne, h1, h2, hz, q⟩ := h
  cases rx
  obtain ⟨t, rfl⟩ := ry
  obtain ⟨its, r, ⟨⟨cls, dd, data, sl⟩, ho, hc, n, hd⟩, hs⟩ := I.tuple hT
  simp only at hc hd
  subst hc hd
  have hle : its.length = xs.length := r.length.symm
  have hn : its ≠ [] := fun e => hne (by
    rw [e] at hle
    exact List.eq_nil_of_length_eq_zero hle.symm)
  have hi : its.toArray.isEmpty = false := by
    cases its with
    | nil => exact absurd rfl hn
    | cons a b => rfl
  have hm : ((its.toArray.size : Nat) : Int) * k ≤ 4000000 := by
    rw [show its.toArray.size = xs.length by rw [List.size_toArray, hle]]
    have a1 : ((xs.length : Nat) : Int) * k ≤ 1000 * k := Int.mul_le_mul_of_nonneg_right (by omega) (by omega)
    omega
  have fl2 : k.toNat * xs.length ≤ 4000 * 1000 := Nat.mul_le_mul (by omega) hz
  have flen : (List.replicate k.toNat its).flatten.length ≤ sizeLine := by
    rw [PyProof.Rows.lm_len_rep_flat, hle, sizeLine_eq]
    omega
  have c0 : (decide (k < -(2 ^ 63)) || decide (k ≥ 2 ^ 63)) = false := by
    rw [decide_eq_false (by omega), decide_eq_false (by omega)] <;> rfl
  have c1 : (its.toArray.isEmpty || k == 1) = false := by
    rw [hi, Bool.false_or]
    exact beq_eq_false_iff_ne.mpr (by omega)
  have c2 : (decide (k ≤ 0) || its.toArray.isEmpty) = false := by
    rw [hi, Bool.or_false]
    exact decide_eq_false (by omega)
  have c4 : Builtin.Tuple.tupleTooMany (((its.toArray.size : Nat) : Int) * k) = false := by
    unfold Builtin.Tuple.tupleTooMany
    rw [sizeLine_eq]
    exact decide_eq_false (by omega)
  refine wpAny_binaryOp_repeat_ref (T := "tuple") (U := "int") (by decide) ⟨_, ho, rfl⟩ (fun s' => typeIs_int s' k t) noFill_tuple_mul F.fills_int_mul F.slot_int_rmul repeat_tuple F.slot_int_index.lookup
    (call_meets F.slot_int_rmul (typeIs_int s k t) F.entry_int_rmul (F.args_int_rmul_2 _ _) (int_rmul_tuple k t l its.toArray n dd sl)
      ⟨ho, rfl, ⟨_, ho, rfl⟩, call_meets F.slot_tuple_mul ⟨_, ho, rfl⟩ F.entry_tuple_mul (F.args_tuple_mul_2 _ _) (tuple_mulW l its.toArray n dd sl k t c0 c1 c2 (by omega) c4 (by rw [size_rep, List.size_toArray]; exact flen)) ⟨ho, ?_⟩⟩)
  rw [size_rep]
  refine ⟨.ref s.heap.objs.size, _, I.laid (t' := s.toks) (o := .tup (List.replicate k.toNat xs).flatten) (fun b ob q => Heap.get?_push_of_some _ q) (Nat.le_refl _) ?_, rfl, q _ (I.hok.fresh (Nat.le_refl _))⟩
  exact ⟨by rw [PyProof.Rows.lm_len_rep_flat, sizeLine_eq]; omega, _, r.rep k.toNat, IsTup.new _ _⟩
theorem op_bin {c : Ct} (hK : X.K = c.K) (m : Bool) (o : BOp) : OpR X (binaryOp (pyOp o)) (rV2 c (binD m o)) := by
  intro pins s σ H x y v u Q I rx ry h
  obtain ⟨w, M, d, e, E, S, r1, r2, h⟩ := h
  have cat : OkG c (Rep c) w H (catD m d e M) Q E → wpAny (model X.prog X.w) X.A (binaryOp (pyOp .add) v u) (EP X pins σ Q) X.xe s := by
    intro h
    unfold catD at h
    split at h
    · rename_i xs ys e1 e2
      split at h
      · rename_i hz
        obtain ⟨a, vs, rfl, q, z, rr⟩ := lstOf_ok S e1 r1
        obtain ⟨a2, vs2, rfl, q2, z2, rr2⟩ := lstOf_ok S e2 r2
        have l1 := rr.len
        have l2 := rr2.len
        have hz' : xs.length + ys.length ≤ sizeLine := hz
        exact op_catL pins s σ H _ _ v u Q I rx ry ⟨a, a2, vs, vs2, rfl, rfl, by rw [hK]; exact q, by rw [hK]; exact q2, by omega, mkL_ok S (rr.append rr2) (by rw [List.length_append]; exact hz') h⟩
      · exact h.elim
    · unfold catT at h
      split at h
      · rename_i xs ys _ _
        split at h
        · rename_i hz
          have hz' : xs.length + ys.length ≤ sizeLine := hz
          obtain ⟨a, vs, rfl, q, z, rr⟩ := rep_tup.mp r1
          obtain ⟨a2, vs2, rfl, q2, z2, rr2⟩ := rep_tup.mp r2
          have l1 := rr.len
          have l2 := rr2.len
          refine op_catA pins s σ H _ _ v u Q I rx ry ⟨a, a2, vs, vs2, rfl, rfl, by rw [hK]; exact q.sq, by rw [hK]; exact q2.sq, by omega, fun e => ?_, fun _ e => ?_, fun _ _ => mkT_ok S (rr.append rr2) (by rw [List.length_append]; exact hz') h⟩
          · subst e
            have : xs = [] := List.eq_nil_of_length_eq_zero (by simpa using l1)
            subst this
            exact h.ret S r2
          · subst e
            have : ys = [] := List.eq_nil_of_length_eq_zero (by simpa using l2)
            subst this
            rw [List.append_nil] at h
            exact h.ret S r1
        · exact h.elim
      · exact h.elim
  have other : OkG c (Rep c) w H (seqBin m o d e M) Q E → wpAny (model X.prog X.w) X.A (binaryOp (pyOp o) v u) (EP X pins σ Q) X.xe s := by
    intro h
    cases o with
    | add => exact cat h
    | mul =>
      replace h : OkG c (Rep c) w H (timesD m d e M) Q E := h
      unfold timesD at h
      split at h
      · rename_i i k _
        split at h
        · rename_i xs hM
          split at h
          · rename_i hm
            obtain ⟨h0, h1, hz⟩ := hm
            rw [rep_int] at r2; subst r2
            obtain ⟨a, rfl, hi⟩ := rep_ref.mp r1
            obtain ⟨vs, e2, z, rr⟩ := S.cell i a (.lst xs) hi hM
            have l1 := rr.len
            have hz' : xs.length * k.toNat ≤ sizeLine := hz
            refine op_rep pins s σ H _ _ v u Q I rx ry ⟨a, k, vs, rfl, rfl, e2, by omega, by omega, by rw [← l1]; exact hz', mkL_ok S (repL_flat rr _) ?_ h⟩
            rw [PyProof.Rows.lm_len_rep_flat, Nat.mul_comm]; exact hz'
          · exact h.elim
        · exact h.elim
      · rename_i xs k _
        split at h
        · rename_i hm
          obtain ⟨h0, h1, h2, hz⟩ := hm
          rw [rep_int] at r2; subst r2
          obtain ⟨a, vs, rfl, q, z, rr⟩ := rep_tup.mp r1
          have l1 := rr.len
          refine op_repTW pins s σ H _ _ v u Q I rx ry ⟨a, k, vs, rfl, rfl, by rw [hK]; exact q.sq, fun e => ?_, h1, h2, by omega, mkT_ok S (repL_flat rr _) ?_ h⟩
          · subst e
            exact h0 (List.eq_nil_of_length_eq_zero (by simpa using l1))
          · rw [PyProof.Rows.lm_len_rep_flat, sizeLine_eq]
            have fl2 : k.toNat * xs.length ≤ 4000 * 1000 := Nat.mul_le_mul (by omega) hz
            omega
        · exact h.elim
      · exact h.elim
    | _ => exact h.elim
  cases d with
  | int i =>
    cases e with
    | int j =>
      rw [rep_int] at r1 r2; subst r1; subst r2
      replace h : OkG c (Rep c) w H (binI o i j M) Q E := h
      cases o with
      | add => exact op_add pins s σ H _ _ v u Q I rx ry ⟨i, j, rfl, rfl, h.ret S (rep_int.mpr rfl)⟩
      | sub => exact op_sub pins s σ H _ _ v u Q I rx ry ⟨i, j, rfl, rfl, h.ret S (rep_int.mpr rfl)⟩
      | mul =>
        simp only [binI] at h
        split at h
        · rename_i hm
          exact (opI (C := IntMulOk) (g := fun i j => i * j) fun _ _ _ _ _ _ _ hc q => mul_int q hc) pins s σ H _ _ v u Q I rx ry ⟨i, j, rfl, rfl, hm, h.ret S (rep_int.mpr rfl)⟩
        · exact h.elim
      | fdiv =>
        simp only [binI] at h
        split at h
        · rename_i hm
          exact (opI (C := DivOk) (g := fun i j => i.fdiv j) fun _ _ _ _ _ _ _ hc q => floordiv_int hc.1 q (.inl hc.2)) pins s σ H _ _ v u Q I rx ry ⟨i, j, rfl, rfl, hm, h.ret S (rep_int.mpr rfl)⟩
        · exact h.elim
      | mod =>
        simp only [binI] at h
        split at h
        · rename_i hm
          exact op_modN pins s σ H _ _ v u Q I rx ry ⟨i, j, rfl, rfl, hm, h.ret S (rep_int.mpr rfl)⟩
        · exact h.elim
      | pow =>
        simp only [binI] at h
        split at h
        · rename_i hm
          exact op_pow pins s σ H _ _ v u Q I rx ry ⟨i, j, rfl, rfl, hm, h.ret S (rep_int.mpr rfl)⟩
        · exact h.elim
      | shr =>
        simp only [binI] at h
        split at h
        · rename_i hm
          exact op_shr pins s σ H _ _ v u Q I rx ry ⟨i, j, rfl, rfl, hm, h.ret S (rep_int.mpr rfl)⟩
        · exact h.elim
      | band => exact op_and pins s σ H _ _ v u Q I rx ry ⟨i, j, rfl, rfl, h.ret S (rep_int.mpr rfl)⟩
    | _ => exact h.elim
  | str xl =>
    cases e with
    | str yl =>
      rw [rep_str] at r1 r2
      obtain ⟨rfl, z1, g1⟩ := r1
      obtain ⟨rfl, z2, g2⟩ := r2
      cases o with
      | add =>
        simp only [binD] at h
        split at h
        · rename_i hz
          have hz' : xl.length + yl.length ≤ sizeLine := hz
          refine op_add_str pins s σ H _ _ v u Q I rx ry ⟨_, _, rfl, rfl, by simpa [Str.length] using hz', ?_⟩
          have e3 : ((⟨xl.toArray⟩ : Str) ++ ⟨yl.toArray⟩) = ⟨(xl ++ yl).toArray⟩ := by
            show Str.append _ _ = _
            simp [Str.append]
          rw [e3]
          exact h.ret S (rep_str.mpr ⟨rfl, by rw [List.length_append]; exact hz', fun z hz => (List.mem_append.mp hz).elim (g1 z) (g2 z)⟩)
        · exact h.elim
      | _ => exact h.elim
    | int k =>
      rw [rep_str] at r1
      rw [rep_int] at r2
      obtain ⟨rfl, z1, g1⟩ := r1
      subst r2
      cases o with
      | mul =>
        simp only [binD] at h
        split at h
        · rename_i hm
          obtain ⟨h0, h1, hz⟩ := hm
          have hz' : xl.length * k.toNat ≤ sizeLine := hz
          refine op_strmul pins s σ H _ _ v u Q I rx ry ⟨xl, k, rfl, rfl, h0, h1, hz', ?_⟩
          refine h.ret S (rep_str.mpr ⟨rfl, by rw [PyProof.Rows.lm_len_rep_flat, Nat.mul_comm]; exact hz', fun z hz => ?_⟩)
          obtain ⟨l, hl, hz⟩ := List.mem_flatten.mp hz
          rw [List.eq_of_mem_replicate hl] at hz
          exact g1 z hz
        · exact h.elim
      | _ => exact h.elim
    | _ => exact h.elim
  | non => exact other h
  | bl _ => exact other h
  | tup _ => exact other h
  | lst _ => exact other h
  | ref _ => exact other h
  | exc _ _ => exact other h
  | dic _ _ => exact other h
  | cls _ => exact other h
end
end Fw
namespace Fw
open PySem PySem.Spec PyProof.Rows L2
theorem hsI_eq {P : Program} {wd : World} {ks : List Key} (h : ks.all isI = true) : (tupleKind (mixKind P wd)).hash ks = hsI ks := by
  show reduceHash (Builtin.Tuple.tupleHashOf (ks.map (keyH wd))) = _
  unfold hsI
  congr 2
  refine List.map_congr_left fun k hk => ?_
  have := List.all_eq_true.mp h k hk
  cases k with
  | inl i => rfl
  | inr x => cases this
theorem KN.keys {kvs : List (List Key × V)} {xs : List (List Key × Addr × Value)} (r : KN kvs xs) : kvs.map (·.1) = xs.map (·.1) := by
  induction r with
  | nil => rfl
  | cons h t ih => rw [List.map_cons, List.map_cons, h.1, ih]
theorem KN.val {kvs : List (List Key × V)} {xs : List (List Key × Addr × Value)} (r : KN kvs xs) (k : List Key) : RelO (valV kvs k) ((atKey xs k).map (·.2)) := by
  induction r with
  | nil => exact True.intro
  | @cons p q ps qs h t ih =>
    obtain ⟨h1, h2⟩ := h
    by_cases e : p.1 = k
    · have e' : q.1 = k := h1.symm.trans e
      have b : atKey (q :: qs) k = some q.2 := by simp [atKey, List.find?_cons, e']
      rw [valV_pos e, b]; exact h2
    · have e' : ¬ q.1 = k := fun z => e (h1.trans z)
      have b : atKey (q :: qs) k = atKey qs k := by simp [atKey, List.find?_cons, e']
      rw [valV_neg e, b]; exact ih
theorem KN.repl {kvs : List (List Key × V)} {xs : List (List Key × Addr × Value)} (r : KN kvs xs) (k : List Key) {y : V} {u : Value} (ry : RelV y u) :
    KN (kvs.map fun kv => if kv.1 = k then (kv.1, y) else kv) (xs.map (putAt k u)) := by
  induction r with
  | nil => exact .nil
  | @cons p q ps qs h t ih =>
    rw [List.map_cons, List.map_cons]
    refine .cons ?_ ih
    obtain ⟨h1, h3⟩ := h
    unfold putAt
    by_cases e : p.1 = k
    · rw [if_pos e, if_pos (h1.symm.trans e)]; exact ⟨h1, ry⟩
    · rw [if_neg e, if_neg (fun z => e (h1.trans z))]; exact ⟨h1, h3⟩
theorem KN.put {kvs : List (List Key × V)} {xs : List (List Key × Addr × Value)} (r : KN kvs xs) (k : List Key) {b : Addr} {y : V} {u : Value} (ry : RelV y u) :
    KN (L2.putK kvs k y) (storedH xs k b u) := by
  have e : (kvs.any fun kv => decide (kv.1 = k)) = (atKey xs k).isSome := by
    rw [valV_any, (r.val k).isSome_eq, Option.isSome_map]
  unfold L2.putK storedH
  rw [e]
  by_cases q : (atKey xs k).isSome = true
  · rw [if_pos q, if_pos q]; exact r.repl k ry
  · rw [if_neg q, if_neg q]; exact Paired.snoc r ⟨rfl, ry⟩
structure DMat (K : PySem.W.Frag) (H : Hp) (a : Addr) (kvs : List (List Key × V)) (xs : List (List Key × Addr × Value)) : Prop where
  at_ : H a = some (dM a xs)
  sm : (a == sysModules) = false
  kn : KN kvs xs
  nd : (kvs.map (·.1)).Nodup
  ki : ∀ p ∈ kvs, p.1.all isI = true
  ks : ∀ q ∈ xs, SqT K H q.2.1 (q.1.map kV)
  sz : kvs.length ≤ sizeLine
theorem KN.all {kvs : List (List Key × V)} {xs : List (List Key × Addr × Value)} (r : KN kvs xs) (h : ∀ p ∈ kvs, p.1.all isI = true) : ∀ q ∈ xs, q.1.all isI = true := fun q hq => by
  have h1 : q.1 ∈ kvs.map (·.1) := by rw [r.keys]; exact List.mem_map_of_mem hq
  obtain ⟨p, hp, e⟩ := List.mem_map.mp h1
  rw [← e]
  exact h p hp
theorem dM_ok {P : Program} {wd : World} {H' : Hp} {h' : Heap} {a : Addr} {xs : List (List Key × Addr × Value)} (d : h'.DictOfH (tupleKind (mixKind P wd)) a xs) (hi : ∀ x ∈ xs, x.1.all isI = true) : ObjOk P wd H' h' a (dM a xs) := by
  obtain ⟨o, es, ep, h1, h2, h3, h4, _, _⟩ := d
  refine ⟨⟨o, es, ep, h1, h2, h3, ?_⟩, ⟨o, h1⟩, fun h1' h2' hφ k => ?_⟩
  · rw [h4]
    refine List.map_congr_left fun x hx => ?_
    unfold entryOfKey
    rw [hsI_eq (hi x hx)]
  · obtain ⟨o, es, ep, e, x⟩ := hφ
    exact ⟨o, es, ep, k o e, x⟩
section
variable {X : Cx} {pins : List (Addr × Obj)} {σ : L2.St} {H : Hp} {s : Shared} {a b : Addr} {y v : V} {u r : Value} {o : Option V} {A : Around} {E : Value → Shared → Prop} {kvs : List (List Key × V)} {xs : List (List Key × Addr × Value)} {k : List Key}
theorem key_is (I : Inv X pins σ H s) (q : SqT X.K H b (k.map kV)) : (tupleKind (mixKind X.prog X.w)).is s.heap k b := by
  obtain ⟨its, o, n, hv, e, hc, hd⟩ := sqT_at I.hok I.kIn q
  exact ⟨o, its.toArray, n, e, hc, hd, by simpa using items_are hv⟩
theorem DMat.of (D : DMat X.K H a kvs xs) (I : Inv X pins σ H s) : s.heap.DictOfH (tupleKind (mixKind X.prog X.w)) a xs := by
  obtain ⟨⟨o, es, ep, h1, h2, h3, h4⟩, _, _⟩ := (show ObjOk X.prog X.w H s.heap a (dM a xs) from I.hok a _ D.at_)
  refine ⟨o, es, ep, h1, h2, h3, ?_, fun x hx => key_is I (D.ks x hx), by rw [← D.kn.keys]; exact D.nd⟩
  rw [h4]
  refine List.map_congr_left fun x hx => ?_
  unfold entryOfKey
  rw [hsI_eq (D.kn.all D.ki x hx)]
def DG (K : PySem.W.Frag) (H : Hp) (a : Addr) (y : V) (o : Option V) : Prop :=
  DGet H a y o ∨ ∃ kvs xs k b, DMat K H a kvs xs ∧ y = .ref b ∧ SqT K H b (k.map kV) ∧ o = valV kvs k
theorem g_getItem {Q : Value → Shared → Prop} (hu : A.units + 1 < cLine) (I : Inv X pins σ H s) (g : DG X.K H a y (some v)) (ry : RelV y u) (h : ∀ w' s', Inv X pins σ H s' → RelV v w' → Q w' s') :
    wpAny (model X.prog X.w) A (getItem (.ref a) u) Q E s := by
  rcases g with g | ⟨kvs, xs, k, b, D, ey, eb, l⟩
  · exact d_getItem hu I g ry h
  · subst ey
    cases (show u = Value.ref b from ry)
    obtain ⟨w', hw, rw'⟩ := RelO.some_of (v := v) (o := (atKey xs k).map (·.2)) (by rw [l]; exact D.kn.val k)
    obtain ⟨p, hp, hp2⟩ := Option.map_eq_some_iff.mp hw
    refine wpAny_getItem_heap (tupleKind_room_in1 hu) (key_is I eb) (D.of I) hp ?_
    rw [hp2]
    exact h w' _ (I.tok _) rw'
theorem g_in {Q : Value → Shared → Prop} (hu : A.units + 1 < cLine) (I : Inv X pins σ H s) (g : DG X.K H a y o) (ry : RelV y u) (h : ∀ s', Inv X pins σ H s' → Q (.bool o.isSome) s') :
    wpAny (model X.prog X.w) A (compareOp .In u (.ref a)) Q E s := by
  rcases g with g | ⟨kvs, xs, k, b, D, ey, eb, l⟩
  · exact d_in hu I g ry h
  · subst ey
    cases (show u = Value.ref b from ry)
    refine wpAny_in_heap (tupleKind_room_in1 hu) (key_is I eb) D.sm (D.of I) ?_
    have q := (D.kn.val k).isSome_eq
    rw [Option.isSome_map] at q
    rw [← q, ← l]
    exact h _ (I.tok _)
theorem g_notIn {Q : Value → Shared → Prop} (hu : A.units + 1 < cLine) (I : Inv X pins σ H s) (g : DG X.K H a y o) (ry : RelV y u) (h : ∀ s', Inv X pins σ H s' → Q (.bool (!o.isSome)) s') :
    wpAny (model X.prog X.w) A (compareOp .NotIn u (.ref a)) Q E s := by
  rcases g with g | ⟨kvs, xs, k, b, D, ey, eb, l⟩
  · exact d_notIn hu I g ry h
  · subst ey
    cases (show u = Value.ref b from ry)
    refine wpAny_notIn_heap (tupleKind_room_in1 hu) (key_is I eb) D.sm (D.of I) ?_
    have q := (D.kn.val k).isSome_eq
    rw [Option.isSome_map] at q
    rw [← q, ← l]
    exact h _ (I.tok _)
theorem g_get1 {Q : Value → Shared → Prop} (hu : A.units + 1 < cLine) (I : Inv X pins σ H s) (g : DG X.K H a y o) (ry : RelV y u) (h : ∀ w' s', Inv X pins σ H s' → RelV (o.getD .non) w' → Q w' s') :
    wpAny (model X.prog X.w) A (call (.builtin "dict.get") [.ref a, u]) Q E s := by
  rcases g with g | ⟨kvs, xs, k, b, D, ey, eb, l⟩
  · exact d_get1 hu I g ry h
  · subst ey
    cases (show u = Value.ref b from ry)
    refine call_meetsIn PySem.F.slot_dict_get (D.of I).typeIs PySem.F.entry_dict_get (PySem.F.args_dict_get_2 _ _) (meetsH_dict_get (tupleKind (mixKind X.prog X.w)) a b D.sm) ⟨tupleKind_room_in1 hu, k, xs, key_is I eb, D.of I, h _ _ (I.tok _) ?_⟩
    rw [l]
    exact (D.kn.val k).getD rfl
theorem g_typeIs (I : Inv X pins σ H s) (g : DG X.K H a y o) : s.TypeIs (.ref a) "dict" := by
  rcases g with g | ⟨kvs, xs, k, b, D, ey, eb, l⟩
  · exact dict_typeIs I g
  · exact (D.of I).typeIs
theorem DMat.write {h' : Heap} {t' : Nat} (D : DMat X.K H a kvs xs) (I : Inv X pins σ H s) {xs' : List (List Key × Addr × Value)} (d : h'.DictOfH (tupleKind (mixKind X.prog X.w)) a xs') (hs : Heap.SameBut a s.heap h') (hi : ∀ x ∈ xs', x.1.all isI = true) :
    Inv X pins σ (upd H a (dM a xs')) { s with heap := h', toks := t' } := by
  have he : ∃ q, h'.get? a = some q := let ⟨q, _, _, hq, _⟩ := d; ⟨q, hq⟩
  exact d_write I (by rw [D.at_]; exact True.intro) hs he (dM_ok d hi)
theorem stored_ints (h : ∀ x ∈ xs, x.1.all isI = true) (hk : k.all isI = true) : ∀ x ∈ storedH xs k b u, x.1.all isI = true := fun x hx => by
  rcases mem_storedH_key hx with ⟨y, hy, e, _⟩ | ⟨e, _⟩
  · rw [e]; exact h y hy
  · rw [e]; exact hk
theorem g_setItem {Q : Unit → Shared → Prop} (hu : A.units + 1 < cLine) (I : Inv X pins σ H s) (D : DMat X.K H a kvs xs) (hk : k.all isI = true) (eb : SqT X.K H b (k.map kV)) (hl : kvs.length < sizeLine)
    (h : ∀ s', Inv X pins σ (upd H a (dM a (storedH xs k b r))) s' → Q () s') : wpAny (model X.prog X.w) A (setItem (.ref a) (.ref b) r) Q E s := by
  have hz : xs.length ≤ sizeLine := by rw [← Paired.length D.kn]; exact D.sz
  exact wpAny_setItem_heap (hsz := hz) (tupleKind_room_in1 hu) (key_is I eb) (D.of I) fun h' dd' hs => h _ (D.write I dd' hs (stored_ints (D.kn.all D.ki) hk))
theorem g_setdefault {Q : Value → Shared → Prop} (hu : A.units + 1 < cLine) (I : Inv X pins σ H s) (D : DMat X.K H a kvs xs) (hk : k.all isI = true) (eb : SqT X.K H b (k.map kV)) (hl : kvs.length < sizeLine)
    (h1 : ∀ v w' s', valV kvs k = some v → Inv X pins σ H s' → RelV v w' → Q w' s') (h2 : valV kvs k = none → ∀ s', Inv X pins σ (upd H a (dM a (storedH xs k b r))) s' → Q r s') :
    wpAny (model X.prog X.w) A (call (.builtin "dict.setdefault") [.ref a, .ref b, r]) Q E s := by
  have hz : xs.length ≤ sizeLine := by rw [← Paired.length D.kn]; exact D.sz
  have hv := D.kn.val k
  refine call_setdefault_heap (hsz := hz) (tupleKind_room_in1 hu) (key_is I eb) D.sm (D.of I) (fun p hp => ?_) fun hn h' dd' hs => ?_
  · rw [hp] at hv
    cases hv2 : valV kvs k with
    | none => rw [hv2] at hv; exact hv.elim
    | some z =>
      rw [hv2] at hv
      exact h1 z p.2 _ hv2 (I.tok _) hv
  · rw [hn] at hv
    cases hv2 : valV kvs k with
    | some z => rw [hv2] at hv; exact hv.elim
    | none => exact h2 hv2 _ (D.write I dd' hs (stored_ints (D.kn.all D.ki) hk))
theorem call_len_dM : CallR X (.builtin "len") (fun vs H Q => ∃ p kvs xs, vs = [V.ref p] ∧ DMat X.K H p kvs xs ∧ Q (.int ((kvs.length : Nat) : Int)) H) := by
  intro pins s σ H vs us Q I r h
  obtain ⟨p, kvs, xs, rfl, D, q⟩ := h
  obtain ⟨u, rfl, rx⟩ := vals1 r
  obtain rfl : u = .ref p := rx
  have hl : kvs.length = xs.length := Paired.length D.kn
  refine call_len_dictH D.sm (D.of I) (by rw [← hl]; have := D.sz; rw [sizeLine_eq] at this; omega) ?_
  rw [← hl]
  exact ⟨.int ((kvs.length : Nat) : Int), H, I.tok _, ⟨_, rfl⟩, q⟩
theorem call_list_dM (hc : X.calm = true) : CallR X (.type "list") (fun vs H Q => ∃ d kvs xs, vs = [V.ref d] ∧ DMat X.K H d kvs xs ∧ ∀ p, H p = none → Q (.ref p) (upd H p (.lst (xs.map fun x => V.ref x.2.1)))) := by
  intro pins s σ H vs us Q I r h
  obtain ⟨d, kvs, ks, rfl, D, q⟩ := h
  obtain ⟨u, rfl, rx⟩ := r.one
  cases rx
  obtain ⟨o, es, ep, ho, hx, hdt, he, _, hn⟩ := D.of I
  have z := D.sz
  have l1 : es.size = ks.length := size_of_entries he
  have l2 : kvs.length = ks.length := Paired.length D.kn
  refine PySem.W.kdl_call (kdl_raw D.sm hx hdt) (I.ok.hd hc) ho (by omega) fun h' tk acc' c' kp e it => ?_
  have ea : acc'.toList = ks.map fun x => Value.ref x.2.1 := by
    have hl : acc'.toList.length = ks.length := by rw [Array.length_toList, it.1]; exact l1
    apply List.ext_getElem?
    intro j
    rw [List.getElem?_map]
    cases hj : acc'.toList[j]? with
    | none =>
      have h1 := List.getElem?_eq_none_iff.mp hj
      rw [List.getElem?_eq_none (by omega)]
      all_goals rfl
    | some v =>
      obtain ⟨en, hen, hv⟩ := it.2 j v (by rw [← Array.getElem?_toList]; exact hj)
      have qe := entry_at he j
      rw [hen] at qe
      cases hb : ks[j]? with
      | none =>
        rw [hb] at qe
        exact nomatch (show some en = none from qe)
      | some b =>
        rw [hb] at qe
        have e2 : en = entryOfKey (tupleKind (mixKind X.prog X.w)) b := Option.some.inj qe
        rw [hv, e2]
        all_goals rfl
  have eb : acc'.toList = (ks.map fun x => x.2.1).map Value.ref := by rw [ea, List.map_map]; all_goals rfl
  have em : (ks.map fun x => V.ref x.2.1) = (ks.map fun x => x.2.1).map V.ref := by rw [List.map_map]; all_goals rfl
  have rv : Vals (ks.map fun x => V.ref x.2.1) acc'.toList := by rw [eb, em]; exact vals_refs _
  have hz : (ks.map fun x => V.ref x.2.1).length ≤ sizeLine := by rw [List.length_map]; omega
  refine ⟨.ref s.heap.objs.size, _, I.laid (t' := tk) (o := .lst (ks.map fun x => V.ref x.2.1)) kp (Nat.le_refl _) ?_, rfl, q _ (I.hok.fresh (Nat.le_refl _))⟩
  exact ⟨hz, acc'.toList, c', rv, by rw [Array.toArray_toList]; exact e⟩
theorem g_update {b : Addr} {kvs2 : List (List Key × V)} {xs2 : List (List Key × Addr × Value)} {Q : Value → Shared → Prop} (hu : A.units + 1 < cLine) (I : Inv X pins σ H s) (D : DMat X.K H a kvs xs) (D2 : DMat X.K H b kvs2 xs2) (hab : a ≠ b) (hne : kvs ≠ []) (hl : kvs.length + kvs2.length ≤ sizeLine)
    (h : ∀ s', Inv X pins σ (upd H a (dM a (storedAllH xs xs2))) s' → Q .none s') : wpAny (model X.prog X.w) A (call (.builtin "dict.update") [.ref a, .ref b]) Q E s := by
  have h1 := Paired.length D.kn
  have h2 := Paired.length D2.kn
  refine call_update_dictH (tupleKind_room_in1 hu) hab D2.sm (D.of I) (D2.of I) (.inl fun z => hne ?_) (by omega) fun h' dd' _ hs => h _ (D.write (t' := s.toks) I dd' hs ?_)
  · rw [z] at h1
    exact List.length_eq_zero_iff.mp h1
  · exact fun x hx => storedAllH_keys (P := fun k _ => k.all isI = true) (D.kn.all D.ki) (D2.kn.all D2.ki) x hx
theorem call_dict_dM (hcalm : X.calm = true) (hu : X.A.units + 65 < cLine) : CallR X (.type "dict") (fun xs H Q => ∃ (a : Addr) (ps : List Addr) (qs : List (List Key × Addr × V)), xs = [.ref a] ∧ SqL X.K H a (ps.map V.ref) ∧ Paired (fun p q => SqT X.K H p [.ref q.2.1, q.2.2] ∧ SqT X.K H q.2.1 (q.1.map kV)) ps qs ∧
    (∀ q ∈ qs, q.1.all isI = true) ∧ ∀ p rs, H p = none → (p == sysModules) = false → Paired (fun (q : List Key × Addr × V) (r : List Key × Addr × Value) => q.1 = r.1 ∧ q.2.1 = r.2.1 ∧ RelV q.2.2 r.2.2) qs rs → Q (.ref p) (upd H p (dM p (storedAllH [] rs)))) := by
  intro pins s σ H xs us Q I r q
  obtain ⟨a, ps, qs, ex, hq, hp, hi, q⟩ := q
  subst ex
  obtain ⟨u, eu, rx⟩ := vals1 r
  subst eu
  cases rx
  obtain ⟨its, rv, pl, hz⟩ := I.list hq
  have ei := refs_at rv
  subst ei
  rw [List.length_map] at hz
  have key : ∀ {ps : List Addr} {qs : List (List Key × Addr × V)}, Paired (fun p q => SqT X.K H p [.ref q.2.1, q.2.2] ∧ SqT X.K H q.2.1 (q.1.map kV)) ps qs → ∃ rs : List (List Key × Addr × Value), Paired (fun (q : List Key × Addr × V) (r : List Key × Addr × Value) => q.1 = r.1 ∧ q.2.1 = r.2.1 ∧ RelV q.2.2 r.2.2) qs rs ∧ rs.length = ps.length ∧
      ∀ (j : Nat) (r : List Key × Addr × Value), rs[j]? = some r → ∃ b : Addr, ps[j]? = some b ∧ IsTup s.heap b #[.ref r.2.1, r.2.2] ∧ SqT X.K H r.2.1 (r.1.map kV) := by
    intro ps qs hp
    induction hp with
    | nil => exact ⟨[], .nil, rfl, fun j r e => by simp at e⟩
    | @cons p q ps qs h t ih =>
      obtain ⟨rs, i1, i2, i3⟩ := ih
      obtain ⟨its, rv, ht, _⟩ := I.tuple h.1
      obtain ⟨u, y, ei, ru, ry⟩ := vals2 rv
      subst ei
      cases ru
      refine ⟨(q.1, q.2.1, y) :: rs, .cons ⟨rfl, rfl, ry⟩ i1, by simp [i2], fun j r e => ?_⟩
      cases j with
      | zero =>
        have e' : (q.1, q.2.1, y) = r := Option.some.inj e
        subst e'
        exact ⟨p, rfl, ht, h.2⟩
      | succ j =>
        obtain ⟨b, e1, e2, e3⟩ := i3 j r (by simpa using e)
        exact ⟨b, by simpa using e1, e2, e3⟩
  obtain ⟨rs, r1, r2, r3⟩ := key hp
  obtain ⟨o, n, ho, hc, hd, hdat⟩ := pl
  have hsm : (s.heap.objs.size == sysModules) = false := beq_eq_false_iff_ne.mpr (Nat.ne_of_gt I.big)
  have hkeys : ∀ x ∈ rs, (tupleKind (mixKind X.prog X.w)).is s.heap x.1 x.2.1 := fun x hx => by
    obtain ⟨j, hj, e⟩ := List.mem_iff_getElem.mp hx
    obtain ⟨b, _, _, e3⟩ := r3 j x (by rw [List.getElem?_eq_getElem hj, e])
    exact key_is I e3
  refine call_dict_pairsH (knd := tupleKind (mixKind X.prog X.w)) (ps := rs) (PairArg.list a ((ps.map Value.ref).toArray) (fun j => ps.getD j 0) (rs.map fun r => (Value.ref r.2.1, r.2.2))) (I.ok.hd hcalm) (show X.A.units + 1 + 1 < cLine by omega)
    ⟨⟨o, n, ho, hc, hd, hdat⟩, by simp [r2], fun j k v e => ?_⟩ ⟨by simp, fun j k v e => ?_⟩ (fun h' hk x hx => ?_) (by simp; omega) fun h' tk dd' hk => ?_
  · rw [List.getElem?_map] at e
    obtain ⟨r, er, e2⟩ := Option.map_eq_some_iff.mp e
    cases e2
    obtain ⟨b, e1, ⟨ot, e2, e2c, nt, e2d⟩, e3⟩ := r3 j r er
    have eb : ps.getD j 0 = b := by rw [List.getD_eq_getElem?_getD, e1]; rfl
    refine ⟨by simp [e1], .inl ?_⟩
    show s.heap.IsTuple (ps.getD j 0) _
    rw [eb]
    exact ⟨ot, e2, e2c, nt, e2d⟩
  · have e : (rs.map fun r => (Value.ref r.2.1, r.2.2))[j]? = some (k, v) := e
    rw [List.getElem?_map] at e
    obtain ⟨r, er, e2⟩ := Option.map_eq_some_iff.mp e
    cases e2
    exact ⟨r.1, r.2.1, er, rfl⟩
  · obtain ⟨o2, i2, n2, e, x2⟩ := hkeys x hx
    exact ⟨o2, i2, n2, hk x.2.1 o2 (Nat.ne_of_lt (Heap.lt_size e)) (fun z => nomatch z) e, x2⟩
  · have hi2 : ∀ x ∈ rs, x.1.all isI = true := by
      have go : ∀ {qs : List (List Key × Addr × V)} {rs : List (List Key × Addr × Value)}, Paired (fun (q : List Key × Addr × V) (r : List Key × Addr × Value) => q.1 = r.1 ∧ q.2.1 = r.2.1 ∧ RelV q.2.2 r.2.2) qs rs → (∀ q ∈ qs, q.1.all isI = true) → ∀ x ∈ rs, x.1.all isI = true := by
        intro qs rs h
        induction h with
        | nil => intro _ x hx; cases hx
        | cons h t ih =>
          intro hi x hx
          rcases List.mem_cons.mp hx with e | hx
          · rw [e, ← h.1]; exact hi _ List.mem_cons_self
          · exact ih (fun q hq => hi q (List.mem_cons_of_mem _ hq)) x hx
      exact go r1 hi
    refine ⟨.ref s.heap.objs.size, _, I.laid (t' := tk) (o := dM s.heap.objs.size (storedAllH [] rs)) (fun b o e => hk b o (fun z => nomatch z) e) (Nat.le_refl _) (dM_ok dd' fun x hx => storedAllH_keys (P := fun k _ => k.all isI = true) (by simp) hi2 x hx), rfl, q _ rs (I.hok.fresh (Nat.le_refl _)) hsm r1⟩
def tDNewM : TE := fun _ H Q => ∀ p, H p = none → (p == sysModules) = false → Q (.ref p) (upd H p (dM p []))
theorem pe_dnewM {pos : Pos} : PE X (.Dict [] [] pos) tDNewM := ⟨fun pins s σ H Q I h => by
  have hb := I.big
  have e : (s.heap.push { cls := .type "dict", data := .dict #[] }).get? s.heap.objs.size = some { cls := .type "dict", data := .dict #[] } := Heap.get?_push_size _ rfl
  refine wpAny_Dict_empty ⟨.ref s.heap.objs.size, _, I.laid (a := s.heap.objs.size) (o := dM s.heap.objs.size []) (t' := s.toks) (fun _ _ q => Heap.get?_push_of_some _ q) (Nat.le_refl _) ?_, rfl, h _ (I.hok.fresh (Nat.le_refl _)) (beq_eq_false_iff_ne.mpr (Ne.symm (Nat.ne_of_lt hb)))⟩
  exact ⟨⟨_, #[], 0, e, ⟨rfl, rfl, rfl⟩, rfl, rfl⟩, ⟨_, e⟩, fun h1 h2 ⟨o, es, ep, e1, x⟩ k => ⟨o, es, ep, k o e1, x⟩⟩⟩
def tyM (K : PySem.W.Frag) (T : String) (x : V) (H : Hp) : Prop := tyV K T x H ∨ (T = "dict" ∧ ∃ p xs, x = .ref p ∧ H p = some (dM p xs)) ∨ (T = "tuple" ∧ ∃ p o xs, x = .ref p ∧ H p = some (.frz o (.tup xs)) ∧ o.dict = none)
theorem tyM_is {T : String} {x : V} {v : Value} (I : Inv X pins σ H s) (r : RelV x v) (ty : tyM X.K T x H) :
    s.TypeIs v T ∧ ∀ a, v = .ref a → ∃ ob, s.heap.get? a = some ob ∧ ob.dict = none := by
  rcases ty with ty | ⟨rfl, p, xs, rfl, e⟩ | ⟨rfl, p, o, xs, rfl, e, ed⟩
  · exact tyV_is I r ty
  rotate_left
  · cases r
    obtain ⟨h1, h2⟩ := (show s.heap.get? p = some o ∧ ObjOk X.prog X.w H s.heap p (.tup xs) from I.hok p _ e)
    obtain ⟨_, its, _, ob, h3, h4⟩ := h2
    rw [h1] at h3; cases h3
    refine ⟨⟨o, h1, h4.1⟩, fun a e2 => ?_⟩
    cases e2
    exact ⟨o, h1, ed⟩
  · cases r
    obtain ⟨⟨o, es, ep, h1, h2, h3, h4⟩, _, _⟩ := (show ObjOk X.prog X.w H s.heap p (dM p xs) from I.hok p _ e)
    refine ⟨⟨o, h1, h2.1⟩, fun a e2 => ?_⟩
    cases e2
    exact ⟨o, h1, h2.2.1⟩
def tMM0 (K : PySem.W.Frag) (T : String) (r : V → List V → Hp → VK → Prop) (to : TE) : TE := fun σ H Q => to σ H fun x H1 => tyM K T x H1 ∧ r x [] H1 Q
def tMM (K : PySem.W.Frag) (T : String) (r : V → List V → Hp → VK → Prop) (to : TE) (t : TA) : TE := fun σ H Q => to σ H fun x H1 => tyM K T x H1 ∧ t σ H1 fun xs H2 => r x xs H2 Q
variable {oe e : Expr} {es : List Expr} {to : TE} {t : TA} {name : Str} {apos cpos : Pos} {T id : String} {rr : V → List V → Hp → VK → Prop}
theorem pe_mm0 (pa : PlainAttrs T) (slot : Slot T name id) (hty : typeOf (.builtin id) = pure (.type "method_descriptor")) (hm : MtR X id rr) (ho : PE X oe to)
    (hbase : attributeBase oe name X.env (eval oe X.env) = eval oe X.env := by rfl) (hline : (apos.endLine == cpos.line) = true := by rfl) : PE X (.Call (.Attribute oe name apos) [] [] cpos) (tMM0 X.K T rr to) := by
  refine ⟨fun pins s σ H Q I h => ?_⟩
  refine wpAny_Call_method0_late hbase hline (thn (ho.run pins s σ H _ I h) fun v s1 ⟨x, H1, I1, r1, ty, q1⟩ => ?_)
  obtain ⟨h1, h2⟩ := tyM_is I1 r1 ty
  exact ⟨T, id, pa, slot, hty, h1, h2, Calls.callWith_builtin rfl (PySem.evalArgs_none (hm pins s1 σ H1 x [] v [] Q I1 r1 .nil q1))⟩
theorem pe_mm (pa : PlainAttrs T) (slot : Slot T name id) (hty : typeOf (.builtin id) = pure (.type "method_descriptor")) (hm : MtR X id rr) (ho : PE X oe to) (ha : PA X (e :: es) t)
    (hbase : attributeBase oe name X.env (eval oe X.env) = eval oe X.env := by rfl)
    (hfew : ((backTo cpos (starEach (e :: es) X.env)).all (fun x => !x.1) && (backToKw cpos (keywordEach [] X.env)).all (fun x => x.1.isSome)
      && decide ((e :: es).length + ([] : List Keyword).length + (if ([] : List Keyword).isEmpty then 0 else 1) < 30)) = true := by rfl)
    (hline : (apos.endLine == cpos.line) = true := by rfl) (hs : starEach (e :: es) X.env = (false, eval e X.env) :: starEach es X.env := by rfl) (hplain : (backTo cpos (starEach es X.env)).any (·.1) = false := by rfl) :
    PE X (.Call (.Attribute oe name apos) (e :: es) [] cpos) (tMM X.K T rr to t) := by
  refine ⟨fun pins s σ H Q I h => ?_⟩
  refine wpAny_Call_method_late hbase hfew hline rfl (thn (ho.run pins s σ H _ I h) fun v s1 ⟨x, H1, I1, r1, ty, q1⟩ => ?_)
  obtain ⟨h1, h2⟩ := tyM_is I1 r1 ty
  refine ⟨T, id, pa, slot, hty, h1, h2, ?_⟩
  have hA := ha.run cpos pins s1 σ H1 _ I1 q1
  rw [hs] at hA ⊢
  refine Calls.callWith_builtin (by show (false || (backTo cpos (starEach es X.env)).any (·.1)) = false; rw [hplain] <;> rfl) (Calls.evalArgs_plain ?_)
  exact thn hA fun us s2 ⟨vs, H2, I2, r2, q2⟩ => hm pins s2 σ H2 x vs v us Q I2 r1 r2 q2
def rSetM (K : PySem.W.Frag) : TSet := fun o i v H Q => ∃ a kvs xs k b, o = .ref a ∧ i = .ref b ∧ DMat K H a kvs xs ∧ k.all isI = true ∧ SqT K H b (k.map kV) ∧ kvs.length < sizeLine ∧ ∀ u, RelV v u → Q (upd H a (dM a (storedH xs k b u)))
theorem set_dictM (hu : X.A.units + 1 < cLine) : PSet X (rSetM X.K) := by
  intro pins s σ H o i v ov iv u Q I ro ri rv h
  obtain ⟨a, kvs, xs, k, b, eo, ei, D, hk, eb, hl, q⟩ := h
  subst eo ei
  cases (show ov = Value.ref a from ro)
  cases (show iv = Value.ref b from ri)
  exact g_setItem hu I D hk eb hl fun s' I' => ⟨_, I', q u rv⟩
end
end Fw
namespace Fw
open PySem PySem.Spec PyProof.Rows L2
mutual
def toPy : D → PyData
  | .non => .none
  | .bl b => .bool b
  | .int i => .int i
  | .str l => .str ⟨l.toArray⟩
  | .tup xs => .tuple (toPys xs)
  | .lst xs => .list (toPys xs)
  | _ => .none
def toPys : List D → List PyData
  | [] => []
  | x :: xs => toPy x :: toPys xs
end
theorem toPys_map : ∀ xs : List D, toPys xs = xs.map toPy
  | [] => rfl
  | x :: xs => by simp [toPys, toPys_map xs]
theorem str_beq (x y : List Nat) : ((⟨x.toArray⟩ : Str) == ⟨y.toArray⟩) = (x == y) := by
  rw [Bool.eq_iff_iff]; simp
mutual
theorem eqD_py : ∀ (n m : Nat) (a b : D), plain n a = true → plain m b = true → PyData.eqv (toPy a) (toPy b) = eqD a b
  | n, m, .non, b, h, g => by cases b <;> first | (((cases m) <;> (simp [plain] at g)); done) | simp [toPy, PyData.eqv, eqD]
  | n, m, .bl x, b, h, g => by cases b <;> first | (((cases m) <;> (simp [plain] at g)); done) | simp [toPy, PyData.eqv, eqD, b2i]
  | n, m, .int x, b, h, g => by cases b <;> first | (((cases m) <;> (simp [plain] at g)); done) | simp [toPy, PyData.eqv, eqD, b2i]
  | n, m, .str x, b, h, g => by
    cases b <;> first | simp [toPy, PyData.eqv, eqD, str_beq] | (cases m <;> simp [plain] at g)
  | 0, m, .tup xs, b, h, g => by simp [plain] at h
  | 0, m, .lst xs, b, h, g => by simp [plain] at h
  | n + 1, m, .tup xs, b, h, g => by
    simp only [plain] at h
    cases b with
    | tup ys =>
      cases m with
      | zero => simp [plain] at g
      | succ m =>
        simp only [plain] at g
        simp only [toPy, PyData.eqv, eqD]
        exact eqL_py n m xs ys h g
    | _ => first | simp [toPy, PyData.eqv, eqD] | (cases m <;> simp [plain] at g)
  | n + 1, m, .lst xs, b, h, g => by
    simp only [plain] at h
    cases b with
    | lst ys =>
      cases m with
      | zero => simp [plain] at g
      | succ m =>
        simp only [plain] at g
        simp only [toPy, PyData.eqv, eqD]
        exact eqL_py n m xs ys h g
    | _ => first | simp [toPy, PyData.eqv, eqD] | (cases m <;> simp [plain] at g)
  | n, m, .ref _, b, h, g => by cases n <;> simp [plain] at h
  | n, m, .exc _ _, b, h, g => by cases n <;> simp [plain] at h
  | n, m, .dic _ _, b, h, g => by cases n <;> simp [plain] at h
  | n, m, .cls _, b, h, g => by cases n <;> simp [plain] at h
theorem eqL_py : ∀ (n m : Nat) (xs ys : List D), plainL n xs = true → plainL m ys = true → PyData.eqvAll (toPys xs) (toPys ys) = eqL xs ys
  | n, m, [], [], h, g => by simp [toPys, PyData.eqvAll, eqL]
  | n, m, [], y :: ys, h, g => by simp [toPys, PyData.eqvAll, eqL]
  | n, m, x :: xs, [], h, g => by simp [toPys, PyData.eqvAll, eqL]
  | n, m, x :: xs, y :: ys, h, g => by
    simp only [plainL, Bool.and_eq_true] at h g
    simp only [toPys, PyData.eqvAll, eqL]
    rw [eqD_py n m x y h.1 g.1, eqL_py n m xs ys h.2 g.2]
end
section
variable {c : Ct} {w : Wd} {M : Hh} {H : Hp}
theorem dpAll_of {n : Nat} (ih : ∀ d v, Rep c w H d v → plain n (snap M n d) = true → Dp c.K H v (toPy (snap M n d)) ∧ (toPy (snap M n d)).canLay0 = true ∧ (toPy (snap M n d)).depth ≤ n) :
    ∀ xs vs, RepL c w H xs vs → plainL n (xs.map (snap M n)) = true → DpAll c.K H vs (toPys (xs.map (snap M n))) ∧ PyData.canLayAll0 (toPys (xs.map (snap M n))) = true ∧ PyData.depthAll (toPys (xs.map (snap M n))) ≤ n
  | [], vs, h, g => by
    simp only [RepL] at h; subst h
    exact ⟨by simpa [toPys] using DpAll.nil, by simp [toPys, PyData.canLayAll0], by simp [toPys, PyData.depthAll]⟩
  | x :: xs, vs, h, g => by
    obtain ⟨v, r, rfl, h1, h2⟩ := h.uncons
    simp only [List.map_cons, plainL, Bool.and_eq_true] at g
    obtain ⟨a1, a2, a3⟩ := ih x v h1 g.1
    obtain ⟨b1, b2, b3⟩ := dpAll_of ih xs r h2 g.2
    simp only [List.map_cons, toPys]
    refine ⟨.cons a1 b1, by simp [PyData.canLayAll0, a2, b2], ?_⟩
    simp only [PyData.depthAll]
    omega
theorem snapDp (S : Sim c w M H) : ∀ (n : Nat) (d : D) (v : V), Rep c w H d v → plain n (snap M n d) = true → Dp c.K H v (toPy (snap M n d)) ∧ (toPy (snap M n d)).canLay0 = true ∧ (toPy (snap M n d)).depth ≤ n
  | n, .non, v, h, g => by
    rw [rep_non] at h; subst h
    cases n <;> exact ⟨by simpa [snap, toPy] using Dp.non, by simp [snap, toPy, PyData.canLay0], by simp [snap, toPy, PyData.depth]⟩
  | n, .bl b, v, h, g => by
    rw [rep_bl] at h; subst h
    cases n <;> exact ⟨by simpa [snap, toPy] using Dp.bl b, by simp [snap, toPy, PyData.canLay0], by simp [snap, toPy, PyData.depth]⟩
  | n, .int b, v, h, g => by
    rw [rep_int] at h; subst h
    cases n <;> exact ⟨by simpa [snap, toPy] using Dp.int b, by simp [snap, toPy, PyData.canLay0], by simp [snap, toPy, PyData.depth]⟩
  | n, .str l, v, h, g => by
    rw [rep_str] at h
    obtain ⟨rfl, z, ok⟩ := h
    have hs : PyData.strOk ⟨l.toArray⟩ = true := by
      unfold PyData.strOk
      rw [Array.all_eq_true]
      intro i hi
      have := ok (l.toArray[i]) (by simp)
      simpa using this
    cases n <;> exact ⟨by simpa [snap, toPy] using Dp.str _, by simpa [snap, toPy, PyData.canLay0] using hs, by simp [snap, toPy, PyData.depth]⟩
  | 0, .tup xs, v, h, g => by simp [snap, plain] at g
  | 0, .lst xs, v, h, g => by simp [snap, plain] at g
  | 0, .ref i, v, h, g => by simp [snap, plain] at g
  | n + 1, .tup xs, v, h, g => by
    obtain ⟨a, vs, rfl, q, z, r⟩ := rep_tup.mp h
    simp only [snap, plain] at g
    obtain ⟨a1, a2, a3⟩ := dpAll_of (snapDp S n) xs vs r g
    simp only [snap, toPy]
    exact ⟨.tup q.sq a1, by simpa [PyData.canLay0] using a2, by simp only [PyData.depth]; omega⟩
  | n + 1, .lst xs, v, h, g => by
    obtain ⟨a, vs, rfl, q, z, r⟩ := rep_lst.mp h
    simp only [snap, plain] at g
    obtain ⟨a1, a2, a3⟩ := dpAll_of (snapDp S n) xs vs r g
    simp only [snap, toPy]
    exact ⟨.lst q.sq a1, by simpa [PyData.canLay0] using a2, by simp only [PyData.depth]; omega⟩
  | n + 1, .ref i, v, h, g => by
    obtain ⟨a, rfl, hi⟩ := rep_ref.mp h
    cases hM : M[i]? with
    | none => simp [snap, hM, plain] at g
    | some mo =>
      cases mo with
      | lst xs =>
        obtain ⟨vs, e2, z, r⟩ := S.cell i a (.lst xs) hi hM
        simp only [snap, hM, plain] at g
        obtain ⟨a1, a2, a3⟩ := dpAll_of (snapDp S n) xs vs r g
        simp only [snap, hM, toPy]
        exact ⟨.lst (.of e2) a1, by simpa [PyData.canLay0] using a2, by simp only [PyData.depth]; omega⟩
      | dic _ _ _ => simp [snap, hM, plain] at g
      | lck _ _ => simp [snap, hM, plain] at g
      | obj _ _ => simp [snap, hM, plain] at g
  | n, .exc _ _, v, h, g => by cases n <;> simp [snap, plain] at g
  | n, .dic _ _, v, h, g => by cases n <;> simp [snap, plain] at g
  | n, .cls _, v, h, g => by cases n <;> simp [snap, plain] at g
theorem shaped_of {d : PyData} {n : Nat} (h1 : d.canLay0 = true) (h2 : d.depth ≤ n) (hn : n ≤ 64) : SeqAt.shaped d = true := by
  show (d.canLay0 && decide (d.depth ≤ 64)) = true
  rw [Bool.and_eq_true]
  exact ⟨h1, decide_eq_true (by omega)⟩
theorem eqM_ok (S : Sim c w M H) {a b : D} {v u : V} {k : Bool} (h : eqM M a b = some k) (ra : Rep c w H a v) (rb : Rep c w H b u) :
    eqDic M a b = some k ∨ ∃ d e, Dp c.K H v d ∧ Dp c.K H u e ∧ SeqAt.shaped d = true ∧ SeqAt.shaped e = true ∧ PyData.eqv d e = k := by
  unfold eqM at h
  split at h
  · rename_i hp
    rw [Bool.and_eq_true] at hp
    cases h
    obtain ⟨a1, a2, a3⟩ := snapDp S 12 a v ra hp.1
    obtain ⟨b1, b2, b3⟩ := snapDp S 12 b u rb hp.2
    exact .inr ⟨_, _, a1, b1, shaped_of a2 a3 (by decide), shaped_of b2 b3 (by decide), eqD_py _ _ _ _ hp.1 hp.2⟩
  · split at h
    · rename_i hp
      rw [Bool.and_eq_true] at hp
      cases h
      obtain ⟨a1, a2, a3⟩ := snapDp S 20 a v ra hp.1
      obtain ⟨b1, b2, b3⟩ := snapDp S 20 b u rb hp.2
      exact .inr ⟨_, _, a1, b1, shaped_of a2 a3 (by decide), shaped_of b2 b3 (by decide), eqD_py _ _ _ _ hp.1 hp.2⟩
    · exact .inl h
end
def pyCop : COp → CmpOp
  | .lt => .Lt | .le => .LtE | .gt => .Gt | .ge => .GtE | .eq => .Eq | .ne => .NotEq | .is => .Is | .isnot => .IsNot | .in_ => .In | .notin => .NotIn
def rCp (c : Ct) (k : D → D → Hh → Option Bool) : R2 := fun x y H Q => ∃ w M d e b, Sim c w M H ∧ Rep c w H d x ∧ Rep c w H e y ∧ k d e M = some b ∧ Q (.bl b) H
section
variable {X : Cx} {c : Ct}
theorem ii {k : Int → Int → Bool} {a b : D} {r : Bool} (h : (match a, b with | .int i, .int j => some (k i j) | _, _ => none) = some r) : ∃ i j, a = .int i ∧ b = .int j ∧ k i j = r := by
  split at h
  · exact ⟨_, _, rfl, rfl, Option.some.inj h⟩
  · cases h
theorem flat_of {d : D} {v : V} {w : Wd} {H : Hp} (h : plain 0 d = true) (r : Rep c w H d v) : flatV v = true := by
  cases d with
  | non => rw [rep_non] at r; subst r; rfl
  | bl b => rw [rep_bl] at r; subst r; rfl
  | int b => rw [rep_int] at r; subst r; rfl
  | str b => rw [rep_str] at r; obtain ⟨rfl, _⟩ := r; rfl
  | _ => simp [plain] at h
theorem eqV_of {a b : D} {v u : V} {w : Wd} {H : Hp} (h : plain 0 a = true) (g : plain 0 b = true) (r : Rep c w H a v) (q : Rep c w H b u) : eqV v u = eqD a b := by
  cases a with
  | non =>
    rw [rep_non] at r; subst r
    cases b with
    | non => rw [rep_non] at q; subst q; simp [eqV, eqD]
    | bl b => rw [rep_bl] at q; subst q; simp [eqV, eqD]
    | int b => rw [rep_int] at q; subst q; simp [eqV, eqD]
    | str b => rw [rep_str] at q; obtain ⟨rfl, _⟩ := q; simp [eqV, eqD]
    | _ => simp [plain] at g
  | bl x =>
    rw [rep_bl] at r; subst r
    cases b with
    | non => rw [rep_non] at q; subst q; simp [eqV, eqD]
    | bl b => rw [rep_bl] at q; subst q; simp [eqV, eqD]
    | int b => rw [rep_int] at q; subst q; simp [eqV, eqD, b2i]
    | str b => rw [rep_str] at q; obtain ⟨rfl, _⟩ := q; simp [eqV, eqD]
    | _ => simp [plain] at g
  | int x =>
    rw [rep_int] at r; subst r
    cases b with
    | non => rw [rep_non] at q; subst q; simp [eqV, eqD]
    | bl b => rw [rep_bl] at q; subst q; simp [eqV, eqD, b2i]
    | int b => rw [rep_int] at q; subst q; simp [eqV, eqD]
    | str b => rw [rep_str] at q; obtain ⟨rfl, _⟩ := q; simp [eqV, eqD]
    | _ => simp [plain] at g
  | str x =>
    rw [rep_str] at r; obtain ⟨rfl, _⟩ := r
    cases b with
    | non => rw [rep_non] at q; subst q; simp [eqV, eqD]
    | bl b => rw [rep_bl] at q; subst q; simp [eqV, eqD]
    | int b => rw [rep_int] at q; subst q; simp [eqV, eqD]
    | str b => rw [rep_str] at q; obtain ⟨rfl, _⟩ := q; simp only [eqV, eqD]; exact str_beq _ _
    | _ => simp [plain] at g
  | _ => simp [plain] at h
end
theorem kD_str (l : List Nat) : kD (.inr ⟨l.toArray⟩) = .str l := by simp [kD]
theorem eqD_kD (a b : Key) : eqD (kD a) (kD b) = decide (a = b) := by
  cases a with
  | inl i =>
    cases b with
    | inl j => simp [kD, eqD, ← Bool.beq_eq_decide_eq]
    | inr y => simp [kD, eqD]
  | inr x =>
    cases b with
    | inl j => simp [kD, eqD]
    | inr y =>
      simp only [kD, eqD]
      rw [Bool.eq_iff_iff]
      obtain ⟨x⟩ := x
      obtain ⟨y⟩ := y
      simp [Array.ext_iff, ← Array.toList_inj]
theorem eqL_kD : ∀ (a b : List Key), eqL (a.map kD) (b.map kD) = decide (a = b)
  | [], [] => by simp [eqL]
  | [], y :: ys => by simp [eqL]
  | x :: xs, [] => by simp [eqL]
  | x :: xs, y :: ys => by
    simp only [List.map_cons, eqL, eqD_kD, eqL_kD xs ys, List.cons.injEq]
    rw [Bool.eq_iff_iff]; simp
section
variable {c : Ct} {w : Wd} {M : Hh} {H : Hp}
theorem key1_ok {x : D} {v : V} (h : key1 x = true) (r : Rep c w H x v) : ∃ k : Key, x = kD k ∧ v = kV k := by
  cases x with
  | int i => rw [rep_int] at r; exact ⟨.inl i, rfl, r⟩
  | str l => rw [rep_str] at r; exact ⟨.inr ⟨l.toArray⟩, (kD_str l).symm, r.1⟩
  | _ => simp [key1] at h
theorem keys_ok : ∀ {xs : List D} {vs : List V}, xs.all key1 = true → RepL c w H xs vs → ∃ ks : List Key, xs = ks.map kD ∧ vs = ks.map kV
  | [], vs, _, r => by simp only [RepL] at r; subst r; exact ⟨[], rfl, rfl⟩
  | x :: xs, vs, h, r => by
    obtain ⟨v, q, rfl, r1, r2⟩ := r.uncons
    simp only [List.all_cons, Bool.and_eq_true] at h
    obtain ⟨k, rfl, rfl⟩ := key1_ok h.1 r1
    obtain ⟨ks, rfl, rfl⟩ := keys_ok h.2 r2
    exact ⟨k :: ks, rfl, rfl⟩
theorem keyT_ok {x : D} {v : V} (h : kindK .two x = true) (r : Rep c w H x v) : ∃ (ks : List Key) (b : Addr), x = .tup (ks.map kD) ∧ v = .ref b ∧ ¬ w.mu b ∧ H b = some (.tup (ks.map kV)) ∧ ks.length ≤ sizeLine ∧ RepL c w H (ks.map kD) (ks.map kV) := by
  cases x with
  | tup xs =>
    obtain ⟨b, vs, rfl, q0, z, rr⟩ := rep_tup.mp r
    have hk : xs.all key1 = true := (Bool.and_eq_true_iff.mp h).1
    obtain ⟨n, q⟩ : ¬ w.mu b ∧ H b = some (.tup vs) := q0.elim id fun y => by
      have h2 := (Bool.and_eq_true_iff.mp h).2
      rcases xs with _ | ⟨a, _ | ⟨a2, _ | ⟨_, _⟩⟩⟩ <;> simp [isPair] at h2
      exact absurd rr.len.symm y.2.2
    obtain ⟨ks, rfl, rfl⟩ := keys_ok hk rr
    exact ⟨ks, b, rfl, rfl, n, q, by simpa using z, rr⟩
  | _ => simp [kindK, keyT] at h
theorem kD_inj {a b : Key} (h : kD a = kD b) : a = b := by
  have e : eqD (kD a) (kD b) = true := by rw [h, eqD_kD]; simp
  rw [eqD_kD] at e
  simpa using e
theorem rep_kV : ∀ {ks : List Key} {vs : List V}, RepL c w H (ks.map kD) vs → vs = ks.map kV
  | [], vs, r => by simpa [RepL] using r
  | k :: ks, vs, r => by
    obtain ⟨v, q, rfl, r1, r2⟩ := r.uncons
    have h1 : key1 (kD k) = true := by cases k <;> rfl
    obtain ⟨k', e1, rfl⟩ := key1_ok h1 r1
    rw [rep_kV r2, ← kD_inj e1]
    rfl
theorem rep_keyT {ks : List Key} {b : Addr} (r : Rep c w H (.tup (ks.map kD)) (.ref b)) : SqT c.K H b (ks.map kV) := by
  obtain ⟨a, vs, e, q, z, rr⟩ := rep_tup.mp r
  cases e
  rw [← rep_kV rr]
  exact q.sq
theorem keyI_ok {x : D} {v : V} (h : kindK .tup x = true) (r : Rep c w H x v) : ∃ (ks : List Key) (b : Addr), x = .tup (ks.map kD) ∧ v = .ref b ∧ ks.all isI = true ∧ SqT c.K H b (ks.map kV) := by
  cases x with
  | tup xs =>
    have hk : xs.all key1 = true := List.all_eq_true.mpr fun y hy => by
      have := List.all_eq_true.mp (show xs.all isIntD = true from h) y hy
      cases y <;> first | rfl | cases this
    obtain ⟨b, vs, rfl, q0, z, rr⟩ := rep_tup.mp r
    obtain ⟨ks, rfl, rfl⟩ := keys_ok hk rr
    refine ⟨ks, b, rfl, rfl, List.all_eq_true.mpr fun k hk2 => ?_, q0.sq⟩
    have := List.all_eq_true.mp (show (ks.map kD).all isIntD = true from h) (kD k) (List.mem_map_of_mem hk2)
    cases k <;> first | rfl | cases this
  | _ => simp [kindK, keyI] at h
theorem repO_dm {a : Addr} {ks vs : List D} (h : RepO c w H a (.dic .tup ks vs)) : ∃ kvs xs, DMat c.K H a kvs xs ∧ ks = kvs.map (fun p => D.tup (p.1.map kD)) ∧ (∀ q ∈ xs, Rep c w H (.tup (q.1.map kD)) (.ref q.2.1)) ∧ RepL c w H vs (kvs.map (·.2)) := by
  obtain ⟨l, z, kvs, xs, e, sm, kn, n, ki, e2, r1, r2⟩ := h
  exact ⟨kvs, xs, ⟨e, sm, kn, n, ki, fun q hq => rep_keyT (r1 q hq), by rw [e2, List.length_map] at z; exact z⟩, e2, r1, r2⟩
theorem look_ok {κ : Type} [DecidableEq κ] {f : κ → D} (hf : ∀ a b, eqD (f a) (f b) = decide (a = b)) (k : κ) : ∀ {kvs : List (κ × V)} {vs : List D}, RepL c w H vs (kvs.map (·.2)) →
    match lookK (f k) (kvs.map fun p => f p.1) vs with
    | some d => ∃ z, valV kvs k = some z ∧ Rep c w H d z
    | none => valV kvs k = none
  | [], vs, r => by simp [lookK, valV]
  | p :: kvs, vs, r => by
    cases vs with
    | nil => simp only [RepL, List.map_cons] at r; cases r
    | cons d vs =>
      obtain ⟨v, q, e, r1, r2⟩ := r.uncons
      simp only [List.map_cons, List.cons.injEq] at e
      obtain ⟨e1, e2⟩ := e
      subst e1 e2
      simp only [List.map_cons, lookK, hf]
      by_cases hk : p.1 = k
      · simp only [hk, decide_true, if_true]
        exact ⟨p.2, valV_pos hk, r1⟩
      · simp only [hk, decide_false, Bool.false_eq_true, if_false]
        rw [valV_neg hk]
        exact look_ok hf k r2
theorem dicOf_ok (S : Sim c w M H) {y : D} {t : DKd} {ks vs : List D} {u : V} (h : dicOf M y = some (t, ks, vs)) (r : Rep c w H y u) : ∃ i a, y = .ref i ∧ u = .ref a ∧ w.ι[i]? = some a ∧ M[i]? = some (.dic t ks vs) ∧ RepO c w H a (.dic t ks vs) := by
  cases y with
  | ref i =>
    obtain ⟨a, rfl, hi⟩ := rep_ref.mp r
    have hM : M[i]? = some (.dic t ks vs) := by
      unfold dicOf at h
      simp only at h
      split at h
      · rename_i e; cases h; exact e
      · cases h
    exact ⟨i, a, rfl, rfl, hi, hM, S.cell i a _ hi hM⟩
  | _ => simp [dicOf] at h
theorem ints_rep : ∀ ns : List Int, RepL c w H (ns.map D.int) (ns.map V.int)
  | [] => RepL.nil
  | _ :: ns => RepL.cons (rep_int.mpr rfl) (ints_rep ns)
theorem tupcOf_ok {y : D} {xs : List D} {u : V} (h : tupcOf y = some xs) (r : Rep c w H y u) : ∃ (a : Addr) (o : Obj) (ns : List Int), u = .ref a ∧ ¬ w.mu a ∧ H a = some (.frz o (.tup (ns.map V.int))) ∧ o.dict = none ∧ xs = ns.map D.int := by
  unfold tupcOf at h
  split at h
  · cases h
    exact (rep_dic.mp r).2
  · cases h
theorem dget_ok {a : Addr} {t : DKd} {ks vs : List D} {x : D} {v : V} (h : RepO c w H a (.dic t ks vs)) (hk : kindK t x = true) (r : Rep c w H x v) :
    ∃ o, DG c.K H a v o ∧ match lookK x ks vs with
      | some d => ∃ z, o = some z ∧ Rep c w H d z
      | none => o = none := by
  cases t with
  | one =>
    obtain ⟨l, z, kvs, e, n, rfl, r1, r2⟩ := h
    obtain ⟨k, rfl, rfl⟩ := key1_ok (show key1 x = true from hk) r
    exact ⟨valV kvs k, .inl (DGet.k e), look_ok eqD_kD k r2⟩
  | tup =>
    obtain ⟨kvs, xs, dm, rfl, r1, r2⟩ := repO_dm h
    obtain ⟨k, b, rfl, rfl, hi, eb⟩ := keyI_ok hk r
    exact ⟨valV kvs k, .inr ⟨kvs, xs, k, b, dm, rfl, eb, rfl⟩, look_ok (f := fun k : List Key => D.tup (k.map kD)) (fun a b => by simp only [eqD, eqL_kD]) k r2⟩
  | two =>
    obtain ⟨l, z, kvs, e, n, rfl, r1, r2⟩ := h
    obtain ⟨k, b, rfl, rfl, _, eb, _⟩ := keyT_ok hk r
    exact ⟨valV kvs k, .inl (DGet.t e eb), look_ok (f := fun k : List Key => D.tup (k.map kD)) (fun a b => by simp only [eqD, eqL_kD]) k r2⟩
end
theorem plainL_mem {n : Nat} : ∀ {xs : List D}, plainL n xs = true → ∀ x ∈ xs, plain n x = true
  | [], _, x, hx => nomatch hx
  | y :: ys, h, x, hx => by
    simp only [plainL, Bool.and_eq_true] at h
    rcases List.mem_cons.mp hx with e | e
    · rw [e]; exact h.1
    · exact plainL_mem h.2 x e
section
variable {X : Cx} {c : Ct} {w : Wd} {M : Hh} {H : Hp} {pins : List (Addr × Obj)} {σ : L2.St} {s : Shared}
theorem lookK_map (f : D → D) (k : D) : ∀ (ks vs : List D), lookK k ks (vs.map f) = (lookK k ks vs).map f
  | [], vs => by cases vs <;> rfl
  | a :: ks, [] => rfl
  | a :: ks, v :: vs => by
    simp only [List.map_cons, lookK]
    split
    · rfl
    · exact lookK_map f k ks vs
theorem lookK_mem (k : D) : ∀ (ks vs : List D) {d : D}, lookK k ks vs = some d → d ∈ vs
  | [], vs, d, h => by cases vs <;> cases h
  | a :: ks, [], d, h => by cases h
  | a :: ks, v :: vs, d, h => by
    simp only [lookK] at h
    split at h
    · cases h; exact List.mem_cons_self
    · exact List.mem_cons_of_mem _ (lookK_mem k ks vs h)
theorem hits_ok {A : Around} (hK : X.K = c.K) (hu : A.in1.units + 64 < cLine) (I : Inv X pins σ H s) (S : Sim c w M H) {kb : List (Key × V)} {vb : List (Key × Value)} {fs : List D} (rb : KV kb vb) (rf : RepL c w H fs (kb.map (·.2))) (pf : plainL 12 (fs.map (snap M 12)) = true) :
    ∀ {ls : List (Key × V)} {va : List (Key × Value)} {es : List D}, KV ls va → RepL c w H es (ls.map (·.2)) → plainL 12 (es.map (snap M 12)) = true →
      PySem.W.KeqHits A.in1 s vb va (hitK (kb.map fun p => kD p.1) (fs.map (snap M 12)) (ls.map fun p => kD p.1) (es.map (snap M 12))) := by
  intro ls va es rv
  unfold KV at rv
  induction rv generalizing es with
  | nil => intro _ _; exact .nil
  | @cons p q ps qs h t ih =>
    intro r pe
    obtain ⟨h1, h2⟩ := h
    obtain ⟨key, vv⟩ := q
    have h1' : p.1 = key := h1
    subst h1'
    cases es with
    | nil => simp only [RepL, List.map_cons] at r; cases r
    | cons e es =>
      obtain ⟨v, q', eq, r1, r2⟩ := r.uncons
      simp only [List.map_cons, List.cons.injEq] at eq
      obtain ⟨e1, e2⟩ := eq
      subst e1 e2
      simp only [List.map_cons, plainL, Bool.and_eq_true] at pe
      have ih' := ih r2 pe.2
      have lo := look_ok (f := kD) eqD_kD p.1 rf
      have rr := rb.val p.1
      simp only [List.map_cons, hitK, lookK_map]
      cases hl : lookK (kD p.1) (kb.map fun p => kD p.1) fs with
      | none =>
        rw [hl] at lo
        have lo : valV kb p.1 = none := lo
        rw [lo] at rr
        exact .miss rr.none_of
      | some d =>
        rw [hl] at lo
        obtain ⟨z, lz, rz⟩ := lo
        rw [lz] at rr
        obtain ⟨y, hy, ry⟩ := rr.some_of
        have pd : plain 12 (snap M 12 d) = true := plainL_mem pf _ (List.mem_map_of_mem (lookK_mem _ _ _ hl))
        obtain ⟨a1, a2, a3⟩ := snapDp S 12 e p.2 r1 pe.1
        obtain ⟨b1, b2, b3⟩ := snapDp S 12 d z rz pd
        rw [← hK] at a1 b1
        obtain ⟨as, ra⟩ := Dp.reads I _ _ _ a1 h2
        obtain ⟨bs, rb'⟩ := Dp.reads I _ _ _ b1 ry
        have ea := PySem.W.keq_at (A := A) ra rb' (shaped_of a2 a3 (by decide)) (shaped_of b2 b3 (by decide)) hu
        rw [eqD_py 12 12 _ _ pe.1 pd] at ea
        exact .hit hy ea ih'
theorem eqDic_ok {A : Around} {a b : D} {v u : V} {k : Bool} (hK : X.K = c.K) (hu : A.in1.units + 64 < cLine) (I : Inv X pins σ H s) (S : Sim c w M H) (h : eqDic M a b = some k) (ra : Rep c w H a v) (rb : Rep c w H b u) :
    ∃ (p1 p2 : Addr) (ka kb : List (Key × Value)) (f : Bool), v = .ref p1 ∧ u = .ref p2 ∧ (p1 == sysModules) = false ∧ (p2 == sysModules) = false ∧ s.heap.DictOf (mixKind X.prog X.w) p1 ka ∧ s.heap.DictOf (mixKind X.prog X.w) p2 kb ∧ PySem.W.KeqHits A.in1 s kb ka f ∧ (ka.length == kb.length && f) = k := by
  unfold eqDic at h
  split at h
  · rename_i ks vs ls us e1 e2
    split at h
    · rename_i hp
      rw [Bool.and_eq_true] at hp
      cases h
      obtain ⟨i, p1, rfl, rfl, hi, hM, l1, z1, kv1, E1, n1, rfl, rk1, rv1⟩ := dicOf_ok S e1 ra
      obtain ⟨j, p2, rfl, rfl, hj, hN, l2, z2, kv2, E2, n2, rfl, rk2, rv2⟩ := dicOf_ok S e2 rb
      obtain ⟨y1, x1, va, ra1, d1⟩ := dk_rd I.hok (.inl E1)
      obtain ⟨y2, x2, vb, rb1, d2⟩ := dk_rd I.hok (.inl E2)
      refine ⟨p1, p2, va, vb, _, rfl, rfl, x1, x2, d1, d2, hits_ok hK hu I S rb1 rv2 hp.2 ra1 rv1 hp.1, ?_⟩
      rw [List.length_map, List.length_map, ← ra1.length, ← rb1.length]
    · cases h
  · cases h
end
section
variable {X : Cx} {c : Ct}
theorem snap_plain0 {M : Hh} {d : D} (h : plain 0 d = true) : snap M 12 d = d := by
  cases d <;> first | rfl | (simp [plain] at h)
theorem any_map (f : D → Bool) (g : D → PyData) (k : PyData → Bool) : ∀ xs : List D, (∀ x ∈ xs, k (g x) = f x) → (xs.map g).any k = xs.any f
  | [], _ => rfl
  | x :: xs, h => by
    rw [List.map_cons, List.any_cons, List.any_cons, h x List.mem_cons_self, any_map f g k xs fun y hy => h y (List.mem_cons_of_mem _ hy)]
theorem in_ok (hK : X.K = c.K) (hu : X.A.units + 65 < cLine) (neg : Bool) : OpR X (compareOp (if neg then .NotIn else .In)) (rCp c fun x y M => (inD M x y).map fun b => if neg then !b else b) := by
  intro pins s σ H x y v u Q I rx ry h
  obtain ⟨w, M, d, e, b, S, r1, r2, hk, hq⟩ := h
  obtain ⟨k, hin, hb⟩ := Option.map_eq_some_iff.mp hk
  subst hb
  have lst : ∀ xs, (∃ a vs, y = .ref a ∧ SqL c.K H a vs ∧ xs.length ≤ sizeLine ∧ RepL c w H xs vs) → inL M d xs = some k → wpAny (model X.prog X.w) X.A (compareOp (if neg then .NotIn else .In) v u) (EP X pins σ Q) X.xe s := by
    intro xs ⟨a, vs, ey, hq2, hz, rr⟩ hi
    subst ey
    unfold inL at hi
    split at hi
    · rename_i hp
      rw [Bool.and_eq_true] at hp
      cases hi
      obtain ⟨a1, a2, a3⟩ := snapDp S 12 d x r1 hp.1
      obtain ⟨b1, b2, b3⟩ := dpAll_of (snapDp S 12) xs vs rr hp.2
      have hD : Dp X.K H (.ref a) (.list (toPys (xs.map (snap M 12)))) := by rw [hK]; exact .lst hq2 b1
      have sl : SeqAt.shaped (.list (toPys (xs.map (snap M 12)))) = true := shaped_of (n := 13) (by simpa [PyData.canLay0] using b2) (by simp only [PyData.depth]; omega) (by decide)
      have ev : ((toPys (xs.map (snap M 12))).any fun z => PyData.eqv z (toPy (snap M 12 d))) = (xs.map (snap M 12)).any fun z => eqD z (snap M 12 d) := by
        rw [toPys_map]
        exact any_map _ _ _ _ fun z hz => eqD_py 12 12 z _ (plainL_mem hp.2 z hz) hp.1
      cases neg with
      | false => exact op_inD hu pins s σ H x _ v u Q I rx ry ⟨_, _, by rw [hK]; exact a1, hD, shaped_of a2 a3 (by decide), sl, by rw [ev]; exact hq⟩
      | true => exact op_notInD hu pins s σ H x _ v u Q I rx ry ⟨_, _, by rw [hK]; exact a1, hD, shaped_of a2 a3 (by decide), sl, by rw [ev]; exact hq⟩
    · cases hi
  have tup : ∀ (xs : List D) (vs : List V) (a : Addr), SqT c.K H a vs → y = .ref a → RepL c w H xs vs → (plain 0 d && plainL 0 xs) = true → Q (.bl (if neg = true then !(xs.any fun z => eqD z d) else xs.any fun z => eqD z d)) H → wpAny (model X.prog X.w) X.A (compareOp (if neg then .NotIn else .In) v u) (EP X pins σ Q) X.xe s := by
    intro xs vs a hq2 ey rr hp hq
    subst ey
    rw [Bool.and_eq_true] at hp
    have fl : ∀ {xs : List D} {vs : List V}, RepL c w H xs vs → plainL 0 xs = true → vs.all flatV = true ∧ (vs.any fun z => eqV z x) = xs.any fun z => eqD z d := by
      intro xs
      induction xs with
      | nil => intro vs rr _; simp only [RepL] at rr; subst rr; exact ⟨rfl, rfl⟩
      | cons z zs ih =>
        intro vs rr hp2
        obtain ⟨q, qs, rfl, g1, g2⟩ := rr.uncons
        simp only [plainL, Bool.and_eq_true] at hp2
        obtain ⟨i1, i2⟩ := ih g2 hp2.2
        refine ⟨by rw [List.all_cons, flat_of hp2.1 g1, i1]; rfl, ?_⟩
        rw [List.any_cons, List.any_cons, i2, eqV_of hp2.1 hp.1 g1 r1]
    obtain ⟨f1, f2⟩ := fl rr hp.2
    have f3 : inV x vs = xs.any fun z => eqD z d := f2
    cases neg with
    | false => exact op_in_seq pins s σ H x _ v u Q I rx ry ⟨a, vs, rfl, .inr (by rw [hK]; exact hq2), flat_of hp.1 r1, f1, by rw [f3]; simpa using hq⟩
    | true => exact op_notIn_seq pins s σ H x _ v u Q I rx ry ⟨a, vs, rfl, .inr (by rw [hK]; exact hq2), flat_of hp.1 r1, f1, by rw [f3]; simpa using hq⟩
  unfold inD at hin
  split at hin
  ·
    rename_i t
    split at hin
    · rename_i cc
      cases hin
      rw [rep_str] at r1 r2
      obtain ⟨rfl, _⟩ := r1
      obtain ⟨rfl, _⟩ := r2
      have e1 : decide (cc ∈ (⟨t.toArray⟩ : Str).cps.toList) = t.contains cc := by
        rw [Bool.eq_iff_iff]; simp
      cases neg with
      | false => exact op_in_sign pins s σ H _ _ v u Q I rx ry ⟨cc, _, rfl, rfl, by rw [e1]; exact hq⟩
      | true => exact op_notIn_sign pins s σ H _ _ v u Q I rx ry ⟨cc, _, rfl, rfl, by rw [e1]; exact hq⟩
    · rename_i y _
      split at hin
      · rename_i hlt
        cases hin
        rw [rep_str] at r1 r2
        obtain ⟨rfl, _⟩ := r1
        obtain ⟨rfl, _⟩ := r2
        have e1 : (!(Builtin.Str.occurrences (⟨t.toArray⟩ : Str) ⟨y.toArray⟩ 0 (⟨t.toArray⟩ : Str).length 1).isEmpty) = false := by
          rw [Bool.eq_false_iff]
          intro z
          obtain ⟨i, hi, _⟩ := (PySem.StrLaws.found_iff _ _).mp z
          simp only [Str.length, List.size_toArray] at hi
          omega
        cases neg with
        | false => exact op_in_str pins s σ H _ _ v u Q I rx ry ⟨_, _, rfl, rfl, by rw [e1]; exact hq⟩
        | true => exact op_notin_str pins s σ H _ _ v u Q I rx ry ⟨_, _, rfl, rfl, by rw [e1]; exact hq⟩
      · cases hin
    · cases hin
  ·
    rename_i xs
    split at hin
    · rename_i hp
      cases hin
      obtain ⟨a, vs, rfl, hq2, hz, rr⟩ := rep_tup.mp r2
      exact tup xs vs a hq2.sq rfl rr hp hq
    · unfold inL at hin
      split at hin
      · rename_i hp
        rw [Bool.and_eq_true] at hp
        cases hin
        obtain ⟨a, vs, rfl, hq2, hz, rr⟩ := rep_tup.mp r2
        obtain ⟨a1, a2, a3⟩ := snapDp S 12 d x r1 hp.1
        obtain ⟨b1, b2, b3⟩ := dpAll_of (snapDp S 12) xs vs rr hp.2
        have hD : Dp X.K H (.ref a) (.tuple (toPys (xs.map (snap M 12)))) := by rw [hK]; exact .tup hq2.sq b1
        have sl : SeqAt.shaped (.tuple (toPys (xs.map (snap M 12)))) = true := shaped_of (n := 13) (by simpa [PyData.canLay0] using b2) (by simp only [PyData.depth]; omega) (by decide)
        have ev : ((toPys (xs.map (snap M 12))).any fun z => PyData.eqv z (toPy (snap M 12 d))) = (xs.map (snap M 12)).any fun z => eqD z (snap M 12 d) := by
          rw [toPys_map]
          exact any_map _ _ _ _ fun z hz => eqD_py 12 12 z _ (plainL_mem hp.2 z hz) hp.1
        obtain ⟨as, q1⟩ := Dp.reads I _ _ _ (by rw [hK]; exact a1) rx
        obtain ⟨bs, q2⟩ := Dp.reads I _ _ _ hD ry
        have sd := shaped_of a2 a3 (by decide)
        cases neg with
        | false => exact SeqAt.in_tuple_reads q2 q1 (SeqAt.canLay_of_shaped sl) (SeqAt.canLay_of_shaped sd) (room_in_shaped sd hu) ⟨.bl _, H, I, rfl, by rw [ev]; exact hq⟩
        | true => exact SeqAt.notIn_tuple_reads q2 q1 (SeqAt.canLay_of_shaped sl) (SeqAt.canLay_of_shaped sd) (room_in_shaped sd hu) ⟨.bl _, H, I, rfl, by rw [ev]; exact hq⟩
      · cases hin
  · split at hin
    · rename_i xs e1
      exact lst xs (lstOf_ok S e1 r2) hin
    · split at hin
      · rename_i t ks vs e1
        split at hin
        · rename_i hkk
          cases hin
          obtain ⟨i, a, rfl, rfl, hi, hM, hO⟩ := dicOf_ok S e1 r2
          obtain ⟨o, g, ho⟩ := dget_ok hO hkk r1
          have eo : o.isSome = (lookK d ks vs).isSome := by
            split at ho
            · rename_i dd el
              obtain ⟨z, rfl, _⟩ := ho
              rw [el]; rfl
            · rename_i el
              rw [ho, el] <;> rfl
          cases (show u = Value.ref a from ry)
          cases neg with
          | false => exact g_in (by omega) I (by rw [hK]; exact g) rx fun s' I' => ⟨.bl _, H, I', rfl, by rw [eo]; exact hq⟩
          | true => exact g_notIn (by omega) I (by rw [hK]; exact g) rx fun s' I' => ⟨.bl _, H, I', rfl, by rw [eo]; exact hq⟩
        · cases hin
      · split at hin
        · rename_i xs e2
          split at hin
          · rename_i hp
            cases hin
            obtain ⟨a, o, ns, rfl, _, e3, _, rfl⟩ := tupcOf_ok e2 r2
            exact tup _ _ a (.inl (.inr ⟨o, e3⟩)) rfl (ints_rep ns) hp hq
          · cases hin
        · cases hin
theorem op_cmp (hK : X.K = c.K) (hu : X.A.units + 65 < cLine) (o : COp) : OpR X (compareOp (pyCop o)) (rCp c (cmpD o)) := by
  cases o with
  | lt =>
    intro pins s σ H x y v u Q I rx ry ⟨w, M, d, e, b, S, r1, r2, hk, hq⟩
    obtain ⟨i, j, rfl, rfl, rfl⟩ := ii (k := fun i j => decide (i < j)) hk
    rw [rep_int] at r1 r2; subst r1 r2
    exact op_lt pins s σ H _ _ v u Q I rx ry ⟨i, j, rfl, rfl, hq⟩
  | le =>
    intro pins s σ H x y v u Q I rx ry ⟨w, M, d, e, b, S, r1, r2, hk, hq⟩
    obtain ⟨i, j, rfl, rfl, rfl⟩ := ii (k := fun i j => decide (i ≤ j)) hk
    rw [rep_int] at r1 r2; subst r1 r2
    exact op_le pins s σ H _ _ v u Q I rx ry ⟨i, j, rfl, rfl, hq⟩
  | gt =>
    intro pins s σ H x y v u Q I rx ry ⟨w, M, d, e, b, S, r1, r2, hk, hq⟩
    obtain ⟨i, j, rfl, rfl, rfl⟩ := ii (k := fun i j => decide (j < i)) hk
    rw [rep_int] at r1 r2; subst r1 r2
    exact op_gt pins s σ H _ _ v u Q I rx ry ⟨i, j, rfl, rfl, hq⟩
  | ge =>
    intro pins s σ H x y v u Q I rx ry ⟨w, M, d, e, b, S, r1, r2, hk, hq⟩
    obtain ⟨i, j, rfl, rfl, rfl⟩ := ii (k := fun i j => decide (j ≤ i)) hk
    rw [rep_int] at r1 r2; subst r1 r2
    exact op_ge pins s σ H _ _ v u Q I rx ry ⟨i, j, rfl, rfl, hq⟩
  | eq =>
    intro pins s σ H x y v u Q I rx ry ⟨w, M, d, e, b, S, r1, r2, hk, hq⟩
    rcases eqM_ok S (show eqM M d e = some b from hk) r1 r2 with hd | ⟨p, q, h1, h2, h3, h4, rfl⟩
    · obtain ⟨p1, p2, ka, kb, f, rfl, rfl, z1, z2, d1, d2, hh, rfl⟩ := eqDic_ok (A := X.A) hK (by show X.A.units + 1 + 64 < cLine; omega) I S hd r1 r2
      have rx' : v = Value.ref p1 := rx
      have ry' : u = Value.ref p2 := ry
      subst rx' ry'
      exact PySem.W.keq_eq z1 z2 d1 d2 (by omega) (fun _ => hh) ⟨.bl _, H, I, rfl, hq⟩
    exact op_eqD (by omega) pins s σ H _ _ v u Q I rx ry ⟨p, q, by rw [hK]; exact h1, by rw [hK]; exact h2, h3, h4, hq⟩
  | ne =>
    intro pins s σ H x y v u Q I rx ry ⟨w, M, d, e, b, S, r1, r2, hk, hq⟩
    obtain ⟨k, hk2, rfl⟩ := Option.map_eq_some_iff.mp (show (eqM M d e).map (!·) = some b from hk)
    rcases eqM_ok S hk2 r1 r2 with hd | ⟨p, q, h1, h2, h3, h4, rfl⟩
    · obtain ⟨p1, p2, ka, kb, f, rfl, rfl, z1, z2, d1, d2, hh, rfl⟩ := eqDic_ok (A := X.A) hK (by show X.A.units + 1 + 64 < cLine; omega) I S hd r1 r2
      have rx' : v = Value.ref p1 := rx
      have ry' : u = Value.ref p2 := ry
      subst rx' ry'
      exact PySem.W.keq_ne z1 z2 d1 d2 (by omega) (fun _ => hh) ⟨.bl _, H, I, rfl, hq⟩
    exact op_neD (by omega) pins s σ H _ _ v u Q I rx ry ⟨p, q, by rw [hK]; exact h1, by rw [hK]; exact h2, h3, h4, hq⟩
  | is =>
    intro pins s σ H x y v u Q I rx ry ⟨w, M, d, e, b, S, r1, r2, hk, hq⟩
    cases e with
    | non =>
      rw [rep_non] at r2; subst r2
      refine op_isN pins s σ H _ _ v u Q I rx ry ⟨rfl, ?_⟩
      have hb : decide (x = .non) = b := by
        have hk2 : isNon d = b := Option.some.inj hk
        cases d with
        | non => rw [rep_non] at r1; subst r1; rw [← hk2]; simp [isNon]
        | bl _ => rw [rep_bl] at r1; subst r1; rw [← hk2]; simp [isNon]
        | int _ => rw [rep_int] at r1; subst r1; rw [← hk2]; simp [isNon]
        | str _ => rw [rep_str] at r1; obtain ⟨rfl, _⟩ := r1; rw [← hk2]; simp [isNon]
        | tup _ => obtain ⟨a, vs, rfl, _⟩ := rep_tup.mp r1; rw [← hk2]; simp [isNon]
        | lst _ => obtain ⟨a, vs, rfl, _⟩ := rep_lst.mp r1; rw [← hk2]; simp [isNon]
        | ref _ => obtain ⟨a, rfl, _⟩ := rep_ref.mp r1; rw [← hk2]; simp [isNon]
        | exc _ _ => obtain ⟨a, dd, rfl, _⟩ := rep_exc.mp r1; rw [← hk2]; simp [isNon]
        | dic _ _ => obtain ⟨_, a, _, _, rfl, _⟩ := rep_dic.mp r1; rw [← hk2]; simp [isNon]
        | cls _ => rw [rep_cls] at r1; subst r1; rw [← hk2]; simp [isNon]
      rw [hb]; exact hq
    | bl k =>
      rw [rep_bl] at r2; subst r2
      cases d with
      | bl l =>
        rw [rep_bl] at r1; subst r1
        cases (show some (l == k) = some b from hk)
        exact op_isBl pins s σ H _ _ v u Q I rx ry ⟨l, k, rfl, rfl, by rw [← Bool.beq_eq_decide_eq]; exact hq⟩
      | non =>
        rw [rep_non] at r1; subst r1
        cases (show some false = some b from hk)
        obtain rfl : v = Value.none := rx
        obtain rfl : u = Value.bool k := ry
        exact wpAny_is_other rfl (fun z => by cases z) ⟨.bl false, H, I, rfl, hq⟩
      | tup _ =>
        obtain ⟨a, vs, rfl, _⟩ := rep_tup.mp r1
        cases (show some false = some b from hk)
        obtain rfl : v = Value.ref a := rx
        obtain rfl : u = Value.bool k := ry
        exact wpAny_is_other rfl (fun z => by cases z) ⟨.bl false, H, I, rfl, hq⟩
      | lst _ =>
        obtain ⟨a, vs, rfl, _⟩ := rep_lst.mp r1
        cases (show some false = some b from hk)
        obtain rfl : v = Value.ref a := rx
        obtain rfl : u = Value.bool k := ry
        exact wpAny_is_other rfl (fun z => by cases z) ⟨.bl false, H, I, rfl, hq⟩
      | ref _ =>
        obtain ⟨a, rfl, _⟩ := rep_ref.mp r1
        cases (show some false = some b from hk)
        obtain rfl : v = Value.ref a := rx
        obtain rfl : u = Value.bool k := ry
        exact wpAny_is_other rfl (fun z => by cases z) ⟨.bl false, H, I, rfl, hq⟩
      | _ => simp [cmpD, isBl] at hk
    | _ => simp [cmpD] at hk
  | isnot =>
    intro pins s σ H x y v u Q I rx ry ⟨w, M, d, e, b, S, r1, r2, hk, hq⟩
    cases e with
    | non =>
      rw [rep_non] at r2; subst r2
      refine op_notN pins s σ H _ _ v u Q I rx ry ⟨rfl, ?_⟩
      have hb : (!decide (x = .non)) = b := by
        have hk2 : (!isNon d) = b := Option.some.inj hk
        cases d with
        | non => rw [rep_non] at r1; subst r1; rw [← hk2]; simp [isNon]
        | bl _ => rw [rep_bl] at r1; subst r1; rw [← hk2]; simp [isNon]
        | int _ => rw [rep_int] at r1; subst r1; rw [← hk2]; simp [isNon]
        | str _ => rw [rep_str] at r1; obtain ⟨rfl, _⟩ := r1; rw [← hk2]; simp [isNon]
        | tup _ => obtain ⟨a, vs, rfl, _⟩ := rep_tup.mp r1; rw [← hk2]; simp [isNon]
        | lst _ => obtain ⟨a, vs, rfl, _⟩ := rep_lst.mp r1; rw [← hk2]; simp [isNon]
        | ref _ => obtain ⟨a, rfl, _⟩ := rep_ref.mp r1; rw [← hk2]; simp [isNon]
        | exc _ _ => obtain ⟨a, dd, rfl, _⟩ := rep_exc.mp r1; rw [← hk2]; simp [isNon]
        | dic _ _ => obtain ⟨_, a, _, _, rfl, _⟩ := rep_dic.mp r1; rw [← hk2]; simp [isNon]
        | cls _ => rw [rep_cls] at r1; subst r1; rw [← hk2]; simp [isNon]
      rw [hb]; exact hq
    | bl k =>
      rw [rep_bl] at r2; subst r2
      cases d with
      | bl l =>
        rw [rep_bl] at r1; subst r1
        cases (show some (!(l == k)) = some b from hk)
        exact op_notBl pins s σ H _ _ v u Q I rx ry ⟨l, k, rfl, rfl, by rw [← Bool.beq_eq_decide_eq]; exact hq⟩
      | non =>
        rw [rep_non] at r1; subst r1
        cases (show some true = some b from hk)
        obtain rfl : v = Value.none := rx
        obtain rfl : u = Value.bool k := ry
        exact wpAny_isNot_other rfl (fun z => by cases z) ⟨.bl true, H, I, rfl, hq⟩
      | tup _ =>
        obtain ⟨a, vs, rfl, _⟩ := rep_tup.mp r1
        cases (show some true = some b from hk)
        obtain rfl : v = Value.ref a := rx
        obtain rfl : u = Value.bool k := ry
        exact wpAny_isNot_other rfl (fun z => by cases z) ⟨.bl true, H, I, rfl, hq⟩
      | lst _ =>
        obtain ⟨a, vs, rfl, _⟩ := rep_lst.mp r1
        cases (show some true = some b from hk)
        obtain rfl : v = Value.ref a := rx
        obtain rfl : u = Value.bool k := ry
        exact wpAny_isNot_other rfl (fun z => by cases z) ⟨.bl true, H, I, rfl, hq⟩
      | ref _ =>
        obtain ⟨a, rfl, _⟩ := rep_ref.mp r1
        cases (show some true = some b from hk)
        obtain rfl : v = Value.ref a := rx
        obtain rfl : u = Value.bool k := ry
        exact wpAny_isNot_other rfl (fun z => by cases z) ⟨.bl true, H, I, rfl, hq⟩
      | _ => simp [cmpD, isBl] at hk
    | _ => simp [cmpD] at hk
  | in_ =>
    intro pins s σ H x y v u Q I rx ry ⟨w, M, d, e, b, S, r1, r2, hk, hq⟩
    exact in_ok hK hu false pins s σ H x y v u Q I rx ry ⟨w, M, d, e, b, S, r1, r2, by show (inD M d e).map _ = _; rw [show inD M d e = some b from hk]; rfl, hq⟩
  | notin =>
    intro pins s σ H x y v u Q I rx ry ⟨w, M, d, e, b, S, r1, r2, hk, hq⟩
    exact in_ok hK hu true pins s σ H x y v u Q I rx ry ⟨w, M, d, e, b, S, r1, r2, hk, hq⟩
end
end Fw
namespace Fw
open PySem PySem.Spec PyProof.Rows L2
section
variable {c : Ct} {w : Wd} {M : Hh} {H : Hp} {X : Cx}
theorem atI_rep {xs : List D} {vs : List V} {i : Int} {d : D} (r : RepL c w H xs vs) (h : (ixN xs.length i).bind (fun j => xs[j]?) = some d) : ∃ v, L2.atI vs i = some v ∧ Rep c w H d v := by
  obtain ⟨j, h1, h2⟩ := Option.bind_eq_some_iff.mp h
  obtain ⟨v, e, r2⟩ := r.get h2
  refine ⟨v, ?_, r2⟩
  show (ixN vs.length i).bind _ = some v
  rw [← r.len, h1]
  exact e
theorem op_idx (hK : X.K = c.K) (hu : X.A.units + 65 < cLine) : IxR X (rV2 c idxD) := by
  intro value slice pins s σ H x y v u Q I rx ry h hs
  obtain ⟨w, M, d, e, E, S, r1, r2, h⟩ := h
  unfold idxD at h
  split at h
  · rename_i l i
    split at h
    · rename_i k hk
      rw [rep_str] at r1; rw [rep_int] at r2
      obtain ⟨rfl, z, g⟩ := r1
      subst r2
      refine ix_str value slice pins s σ H _ _ v u Q I rx ry ⟨_, i, k, rfl, rfl, by simpa [Str.length] using z, ?_, h.ret S (rep_str.mpr ⟨rfl, by rw [sizeLine_eq]; simp, fun a ha => ?_⟩)⟩ hs
      · have e1 : (⟨l.toArray⟩ : Str).cps.toList = l := rfl
        rw [e1]
        exact hk
      · have := List.mem_singleton.mp ha
        subst this
        obtain ⟨j, _, h2⟩ := Option.bind_eq_some_iff.mp hk
        exact g _ (List.mem_of_getElem? h2)
    · exact h.elim
  · split at h
    · rename_i xs i e0 e1
      split at h
      · rename_i k hk
        rw [rep_int] at r2; subst r2
        obtain ⟨a, vs, rfl, q, z, rr⟩ := seqOf_ok S e0 r1
        obtain ⟨v', hv, rv⟩ := atI_rep rr hk
        rcases q with q | q
        · exact ix_list value slice pins s σ H _ _ v u Q I rx ry ⟨a, vs, i, v', rfl, rfl, by rw [hK]; exact q, hv, h.ret S rv⟩ hs
        · exact ix_tup value slice pins s σ H _ _ v u Q I rx ry ⟨a, vs, i, v', rfl, rfl, by rw [hK]; exact q, hv, h.ret S rv⟩ hs
      · exact h.elim
    · split at h
      · rename_i t ks vs e1
        split at h
        · rename_i hk
          split at h
          · rename_i dv hl
            obtain ⟨i, a, rfl, rfl, hi, hM, hO⟩ := dicOf_ok S e1 r1
            obtain ⟨o, g, ho⟩ := dget_ok hO hk r2
            rw [hl] at ho
            obtain ⟨zv, rfl, rz⟩ := ho
            cases (show v = Value.ref a from rx)
            exact tail_any (g_typeIs I (by rw [hK]; exact g)) PySem.F.slot_dict_getitem.lookup (g_getItem (by omega) I (by rw [hK]; exact g) ry fun w' s3 I3 rw' => ⟨zv, H, I3, rw', h.ret S rz⟩) hs
          · exact h.elim
        · exact h.elim
      · exact h.elim
theorem cut_rep {xs : List D} {vs : List V} (r : RepL c w H xs vs) (lo hi : Option Int) : RepL c w H (cut xs lo hi) (cutV vs lo hi) := by
  have h := r.len
  unfold cut cutV
  rw [← h]
  exact (r.drop _).take _
theorem cut_len {α : Type} (xs : List α) (lo hi : Option Int) : (cut xs lo hi).length ≤ xs.length := by
  unfold cut
  rw [List.length_take, List.length_drop]
  omega
def optD : Option Int → D
  | none => .non
  | some i => .int i
theorem optI_optD (o : Option Int) : optI (optD o) = some o := by cases o <;> rfl
def rSl (c : Ct) (m : Bool) : V → Option Int → Option Int → Hp → VK → Prop := fun x lo hi H Q => ∃ w M d E, Sim c w M H ∧ Rep c w H d x ∧ OkG c (Rep c) w H (slD m d (optD lo) (optD hi) M) Q E
theorem op_sl (hK : X.K = c.K) (m : Bool) : SlR X (rSl c m) := by
  intro pins s σ H x v vl vu lo hi sl Q I rx hs pl pu h
  obtain ⟨w, M, d, E, S, r1, h⟩ := h
  unfold slD at h
  rw [optI_optD, optI_optD] at h
  simp only at h
  split at h
  · rename_i l
    rw [rep_str] at r1
    obtain ⟨rfl, z, g⟩ := r1
    refine sl_str pins s σ H _ v vl vu lo hi sl Q I rx hs pl pu ⟨_, rfl, by simpa [Str.length] using z, ?_⟩
    have e : cutS ⟨l.toArray⟩ lo hi = ⟨(cut l lo hi).toArray⟩ := by
      unfold cutS cut
      simp only [Str.length, List.size_toArray, List.toList_toArray]
      rfl
    rw [e]
    refine h.ret S (rep_str.mpr ⟨rfl, Nat.le_trans (cut_len _ _ _) z, fun a ha => g a ?_⟩)
    exact List.mem_of_mem_drop (List.mem_of_mem_take ha)
  · rename_i xs
    obtain ⟨a, vs, rfl, q, z, rr⟩ := rep_tup.mp r1
    refine sl_tupA pins s σ H _ v vl vu lo hi sl Q I rx hs pl pu ⟨a, vs, rfl, by rw [hK]; exact q.sq, fun hw => ?_, fun _ => mkT_ok S (cut_rep rr lo hi) (Nat.le_trans (cut_len _ _ _) z) h⟩
    have e : cut xs lo hi = xs := by
      have hl := rr.len
      unfold cut
      have h1 : sIx xs.length 0 lo = 0 := by rw [hl]; exact hw.1
      have h2 : sIx xs.length xs.length hi = xs.length := by rw [hl]; exact hw.2
      rw [h1, h2]; simp
    rw [e] at h
    exact h.ret S (rep_tup.mpr ⟨a, vs, rfl, q, z, rr⟩)
  · split at h
    · rename_i xs e1
      obtain ⟨a, vs, rfl, q, z, rr⟩ := lstOf_ok S e1 r1
      exact sl_list pins s σ H _ v vl vu lo hi sl Q I rx hs pl pu ⟨a, vs, rfl, by rw [hK]; exact q, mkL_ok S (cut_rep rr lo hi) (Nat.le_trans (cut_len _ _ _) z) h⟩
    · exact h.elim
structure KitOk (c : Ct) (P : Pg) (ok : Nat → Bool) : Prop where
  eq : ok = P.ok
  own : ∀ k ∈ ["NoneType", "bool", "int", "str", "tuple", "list", "dict"], ∀ x, ok x = true → PySem.W.kitOne c.K (.type k) (.ref (c.ca x)) = some false
  exc : ∀ x y, ok x = true → ok y = true → PySem.W.kitOne c.K (.ref (c.ca x)) (.ref (c.ca y)) = some (P.sup x y)
  bi : ∀ k ∈ ["bool", "int", "str", "tuple", "list", "dict"], ∀ x, ok x = true → PySem.W.kitOne c.K (.ref (c.ca x)) (.type k) = some false
  val : ∀ x, ok x = true → PySem.W.kitOne c.K (.ref (c.ca x)) (.type "ValueError") = some true
  ex : ∀ x, ok x = true → ExcC c.K (c.ca x)
  cl : ∀ x, ok x = true → (PySem.W.clsIn c.K (c.ca x)).isSome = true
  at_ : ∀ x, ok x = true → PySem.W.findIn c.K (.ref (c.ca x)) "at" = some none
  exm : ∀ x y, ok x = true → ok y = true → PySem.W.exmOne c.K (.ref (c.ca x)) (.ref (c.ca y)) = some (P.sup x y)
  kt : P.kt = c.kt
def tyVal (c : Ct) : Ty → Value
  | .int => .type "int" | .bool => .type "bool" | .str => .type "str" | .list => .type "list" | .tuple => .type "tuple" | .dict => .type "dict" | .valErr => .type "ValueError"
  | .cls x => .ref (c.ca x)
def tyVV (c : Ct) : Ty → V
  | .int => .ty "int" | .bool => .ty "bool" | .str => .ty "str" | .list => .ty "list" | .tuple => .ty "tuple" | .dict => .ty "dict" | .valErr => .ty "ValueError"
  | .cls x => .ref (c.ca x)
theorem tyCls (c : Ct) (t : Ty) : ClsV (tyVV c t) (tyVal c t) := by cases t <;> constructor
def okTy (ok : Nat → Bool) : Ty → Bool
  | .cls x => ok x
  | _ => true
def tyBase : Ty → Option String
  | .int => some "int" | .bool => some "bool" | .str => some "str" | .list => some "list" | .tuple => some "tuple" | .dict => some "dict" | .valErr => some "ValueError"
  | .cls _ => none
theorem kit_base {ok : Nat → Bool} {P : Pg} (KK : KitOk c P ok) {k : String} (f : Ty → Bool) (hk : k ∈ ["NoneType", "bool", "int", "str", "tuple", "list", "dict"])
    (hf : ∀ t n, tyBase t = some n → kitB k n = some (f t)) (hc : ∀ x, f (.cls x) = false) (t : Ty) (ht : okTy ok t = true) : PySem.W.kitOne c.K (.type k) (tyVal c t) = some (f t) := by
  cases t with
  | cls x => rw [hc x]; exact KK.own k hk x ht
  | int => exact kit_ty (hf .int _ rfl)
  | bool => exact kit_ty (hf .bool _ rfl)
  | str => exact kit_ty (hf .str _ rfl)
  | list => exact kit_ty (hf .list _ rfl)
  | tuple => exact kit_ty (hf .tuple _ rfl)
  | dict => exact kit_ty (hf .dict _ rfl)
  | valErr => exact kit_ty (hf .valErr _ rfl)
def kitTab (k : String) (f : Ty → Bool) : Bool := [Ty.int, .bool, .str, .list, .tuple, .dict, .valErr].all fun t => match tyBase t with
  | some n => kitB k n == some (f t)
  | none => true
theorem kitTab_ok {k : String} {f : Ty → Bool} (h : kitTab k f = true) (t : Ty) (n : String) (e : tyBase t = some n) : kitB k n = some (f t) := by
  unfold kitTab at h
  simp only [List.all_cons, List.all_nil, Bool.and_true, Bool.and_eq_true, tyBase, beq_iff_eq] at h
  obtain ⟨h1, h2, h3, h4, h5, h6, h7⟩ := h
  cases t <;> cases e <;> assumption
theorem kit_D {ok : Nat → Bool} {P : Pg} (hK : X.K = c.K) (KK : KitOk c P ok) {pins : List (Addr × Obj)} {σ : L2.St} {s : Shared} {d : D} {v : V} {u : Value} (I : Inv X pins σ H s) (S : Sim c w M H)
    (r : Rep c w H d v) (rx : RelV v u) (hd : ∃ b, isTy P M d .int = some b) :
    ∃ (Pr : Heap → Prop) (t : Value), PySem.W.KitX X.K u t Pr ∧ Pr s.heap ∧ u ≠ .builtin "__main__.__loader__#opaque" ∧ ∀ (T : Ty) (b : Bool), okTy ok T = true → isTy P M d T = some b → PySem.W.kitOne X.K t (tyVal c T) = some b := by
  have base : ∀ (k : String) (f : Ty → Bool), TyX X.K H v (.type k) → k ∈ ["NoneType", "bool", "int", "str", "tuple", "list", "dict"] → kitTab k f = true → (∀ x, f (.cls x) = false) → (∀ T b, isTy P M d T = some b → b = f T) →
      ∃ (Pr : Heap → Prop) (t : Value), PySem.W.KitX X.K u t Pr ∧ Pr s.heap ∧ u ≠ .builtin "__main__.__loader__#opaque" ∧ ∀ (T : Ty) (b : Bool), okTy ok T = true → isTy P M d T = some b → PySem.W.kitOne X.K t (tyVal c T) = some b := by
    intro k f ty hk ht hc hf
    obtain ⟨Pr, Z, p, hx⟩ := kit_of I rx ty
    refine ⟨Pr, _, Z, p, hx, fun T b h1 h2 => ?_⟩
    rw [hf T b h2, hK]
    exact kit_base KK f hk (kitTab_ok ht) hc T h1
  have lst : ∀ xs, lstOf M d = some xs → (∀ T b, isTy P M d T = some b → b = (match T with | .list => true | _ => false)) → ∃ (Pr : Heap → Prop) (t : Value), PySem.W.KitX X.K u t Pr ∧ Pr s.heap ∧ u ≠ .builtin "__main__.__loader__#opaque" ∧ ∀ (T : Ty) (b : Bool), okTy ok T = true → isTy P M d T = some b → PySem.W.kitOne X.K t (tyVal c T) = some b := by
    intro xs e hf
    obtain ⟨a, vs, rfl, q, z, rr⟩ := lstOf_ok S e r
    refine base "list" (fun T => match T with | .list => true | _ => false) ?_ (by decide) (by decide +kernel) (fun _ => rfl) hf
    rw [hK]
    rcases q with (q | ⟨o, q⟩) | ⟨o, its, n, q, q2, _⟩
    · exact .base (.lst q)
    · exact .base (.frz q)
    · exact .kList q q2
  cases d with
  | non => rw [rep_non] at r; subst r; exact base "NoneType" (fun _ => false) (.base .non) (by decide) (by decide +kernel) (fun _ => rfl) (fun T b h => (Option.some.inj h).symm)
  | bl k => rw [rep_bl] at r; subst r; exact base "bool" (fun t => match t with | .int => true | .bool => true | _ => false) (.base (.bl _)) (by decide) (by decide +kernel) (fun _ => rfl) (fun T b h => (Option.some.inj h).symm)
  | int k => rw [rep_int] at r; subst r; exact base "int" (fun t => match t with | .int => true | _ => false) (.base (.int _)) (by decide) (by decide +kernel) (fun _ => rfl) (fun T b h => (Option.some.inj h).symm)
  | str k => rw [rep_str] at r; obtain ⟨rfl, _⟩ := r; exact base "str" (fun t => match t with | .str => true | _ => false) (.base (.str _)) (by decide) (by decide +kernel) (fun _ => rfl) (fun T b h => (Option.some.inj h).symm)
  | tup xs =>
    obtain ⟨a, vs, rfl, q0, z, rr⟩ := rep_tup.mp r
    exact base "tuple" (fun t => match t with | .tuple => true | _ => false) (by
      rw [hK]
      rcases q0 with ⟨_, q⟩ | ⟨_, ⟨o, its, n, q, q2, _⟩, _⟩
      · exact .base (.tup q)
      · exact .kTuple q q2) (by decide) (by decide +kernel) (fun _ => rfl) (fun T b h => (Option.some.inj h).symm)
  | lst xs => exact lst xs rfl (fun T b h => (Option.some.inj h).symm)
  | dic _ _ => obtain ⟨b, hb⟩ := hd; simp [isTy] at hb
  | cls _ => obtain ⟨b, hb⟩ := hd; cases hb
  | exc x fs =>
    obtain ⟨a, dd, rfl, hn, q, rr⟩ := rep_exc.mp r
    cases (show u = Value.ref a from rx)
    have hp : P.ok x = true := by
      obtain ⟨b, hb⟩ := hd
      simp only [isTy] at hb
      cases e : P.ok x with
      | true => rfl
      | false => rw [e] at hb; cases hb
    have hx : ok x = true := by rw [KK.eq]; exact hp
    obtain ⟨⟨oe, vs, g1, ⟨g2, g3⟩, g4⟩, _, _⟩ := (show ObjOk X.prog X.w H s.heap a (ExT (.ref (c.ca x)) dd a) from I.hok a _ q)
    have C := KK.ex x hx
    have J : ∃ od, PySem.W.InstAt s.heap a oe (c.ca x) od := by
      obtain ⟨oc, od2, oda, osl⟩ := oe
      dsimp only at g2 g3 g4
      subst g2 g4
      cases fs with
      | nil => simp only [RepX] at rr; subst rr; subst g3; exact ⟨none, g1, rfl, rfl, trivial⟩
      | cons f fs =>
        simp only [RepX] at rr
        obtain ⟨_, dx, v2, rfl, _, q2, _⟩ := rr
        subst g3
        obtain ⟨_, ⟨_, _, _, e, _⟩, _⟩ := (show ObjOk X.prog X.w H s.heap dx (.xd _) from I.hok dx _ q2)
        exact ⟨some _, g1, rfl, rfl, e⟩
    obtain ⟨od, J⟩ := J
    rw [hK]
    refine ⟨_, _, PySem.W.kitx_exc (KK.cl x hx) C.hg C.hk C.hs C.ha C.hn C.ht C.hm, J, (fun z => nomatch z), fun T b h1 h2 => ?_⟩
    have h3 := Option.some.inj (show some _ = some b from (if_pos hp).symm.trans h2)
    cases T with
    | cls y => rw [← h3]; exact KK.exc x y hx h1
    | valErr => rw [← h3]; exact KK.val x hx
    | int => rw [← h3]; exact KK.bi "int" (by decide) x hx
    | bool => rw [← h3]; exact KK.bi "bool" (by decide) x hx
    | str => rw [← h3]; exact KK.bi "str" (by decide) x hx
    | list => rw [← h3]; exact KK.bi "list" (by decide) x hx
    | tuple => rw [← h3]; exact KK.bi "tuple" (by decide) x hx
    | dict => rw [← h3]; exact KK.bi "dict" (by decide) x hx
  | ref i =>
    cases hM : M[i]? with
    | none => obtain ⟨b, hb⟩ := hd; simp [isTy, hM] at hb
    | some mo =>
      cases mo with
      | lst xs => exact lst xs (by simp [lstOf, hM]) (fun T b h => by simp only [isTy, hM] at h; exact (Option.some.inj h).symm)
      | obj _ _ => obtain ⟨b, hb⟩ := hd; simp [isTy, hM] at hb
      | lck _ _ => obtain ⟨b, hb⟩ := hd; simp [isTy, hM] at hb
      | dic t ks vs =>
        obtain ⟨a, rfl, hi⟩ := rep_ref.mp r
        obtain ⟨_, _, hh⟩ := S.cell i a _ hi hM
        cases t with
        | one =>
          refine base "dict" (fun t => match t with | .dict => true | _ => false) ?_ (by decide) (by decide +kernel) (fun _ => rfl) (fun T b h => by simp only [isTy, hM] at h; exact (Option.some.inj h).symm)
          obtain ⟨kvs, e, _⟩ := hh
          exact .base (.dK e)
        | tup => obtain ⟨b, hb⟩ := hd; simp [isTy, hM] at hb
        | two =>
          refine base "dict" (fun t => match t with | .dict => true | _ => false) ?_ (by decide) (by decide +kernel) (fun _ => rfl) (fun T b h => by simp only [isTy, hM] at h; exact (Option.some.inj h).symm)
          obtain ⟨kvs, e, _⟩ := hh
          exact .base (.dT e)
theorem isTy_some {P : Pg} {d : D} {t : Ty} {b : Bool} (h : isTy P M d t = some b) : ∃ b, isTy P M d .int = some b := by
  cases d with
  | cls _ => cases h
  | dic _ _ => cases h
  | ref i =>
    simp only [isTy] at h ⊢
    split at h
    · exact ⟨_, rfl⟩
    · exact ⟨_, rfl⟩
    · exact ⟨_, rfl⟩
    · cases h
  | exc x fs =>
    simp only [isTy] at h ⊢
    split at h
    · rename_i e; rw [if_pos e]; exact ⟨_, rfl⟩
    · cases h
  | _ => exact ⟨_, rfl⟩
theorem isTys_some {P : Pg} {d : D} {t : Ty} {ts : List Ty} {b : Bool} (h : isTys P M d (t :: ts) = some b) : ∃ b, isTy P M d .int = some b := by
  unfold isTys at h
  split at h
  · rename_i e; exact isTy_some e
  · rename_i e; exact isTy_some e
  · cases h
theorem op_isi1 {ok : Nat → Bool} {P : Pg} (hK : X.K = c.K) (KK : KitOk c P ok) (T : Ty) (hT : okTy ok T = true) :
    CallR X (.builtin "isinstance") (fun xs H Q => ∃ w M d v b, Sim c w M H ∧ Rep c w H d v ∧ xs = [v, tyVV c T] ∧ isTys P M d [T] = some b ∧ Q (.bl b) H) := by
  intro pins s σ H xs us Q I r h
  obtain ⟨w, M, d, v, b, S, r1, rfl, e, q⟩ := h
  obtain ⟨u1, u2, rfl, r2, r3⟩ := vals2 r
  have e2 := (tyCls c T).eq r3
  subst e2
  obtain ⟨Pr, t, Z, p, hx, k⟩ := kit_D hK KK I S r1 r2 (isTys_some e)
  have e3 : isTy P M d T = some b := by
    unfold isTys isTys at e
    split at e
    · cases e; assumption
    · cases e; assumption
    · cases e
  exact PySem.W.kia_one Z I.kIn p (k T b hT e3) hx fun tk => ⟨.bl b, H, I.tok tk, rfl, q⟩
theorem kitAny_tys {ok : Nat → Bool} {P : Pg} {t : Value} {d : D} (k : ∀ (T : Ty) (b : Bool), okTy ok T = true → isTy P M d T = some b → PySem.W.kitOne X.K t (tyVal c T) = some b) :
    ∀ (ts : List Ty) (b : Bool), ts.all (okTy ok) = true → isTys P M d ts = some b → PySem.W.kitAny X.K t (ts.map (tyVal c)) = some b
  | [], b, _, h => by cases h; exact kitAny_nil
  | T :: ts, b, ho, h => by
    rw [List.all_cons, Bool.and_eq_true] at ho
    unfold isTys at h
    split at h
    · rename_i e
      cases h
      exact kitAny_cons (k T true ho.1 e) (fun z => nomatch z) (fun _ => rfl)
    · rename_i e
      exact kitAny_cons (k T false ho.1 e) (fun _ => kitAny_tys k ts b ho.2 h) (fun z => nomatch z)
    · cases h
theorem tysP (c : Ct) : ∀ ts : List Ty, Paired ClsV (ts.map (tyVV c)) (ts.map (tyVal c))
  | [] => .nil
  | t :: ts => .cons (tyCls c t) (tysP c ts)
theorem op_isiN {ok : Nat → Bool} {P : Pg} (hK : X.K = c.K) (KK : KitOk c P ok) (ts : List Ty) (hT : ts.all (okTy ok) = true) (hne : ts ≠ []) :
    CallR X (.builtin "isinstance") (fun xs H Q => ∃ w M d v b tp, Sim c w M H ∧ Rep c w H d v ∧ xs = [v, .ref tp] ∧ H tp = some (.tup (ts.map (tyVV c))) ∧ isTys P M d ts = some b ∧ Q (.bl b) H) := by
  intro pins s σ H xs us Q I r h
  obtain ⟨w, M, d, v, b, tp, S, r1, rfl, hH, e, q⟩ := h
  obtain ⟨u1, u2, rfl, r2, r3⟩ := vals2 r
  cases (show u2 = Value.ref tp from r3)
  obtain ⟨Pr, t, Z, p, hx, k⟩ := kit_D hK KK I S r1 r2 (by cases ts with | nil => exact absurd rfl hne | cons t ts => exact isTys_some e)
  obtain ⟨_, its, rv, o, h1, h2, n, h3⟩ := (show ObjOk X.prog X.w H s.heap tp (.tup _) from I.hok tp _ hH)
  have e3 := ClsV.all (tysP c ts) rv
  subst e3
  obtain ⟨oc, od, dt, sl⟩ := o
  simp only at h2 h3
  subst h2 h3
  exact PySem.W.kia_tup Z I.kIn p h1 (kitAny_tys k ts b hT e) hx fun tk => ⟨.bl b, H, I.tok tk, rfl, q⟩
theorem intsOf_ok : ∀ {xs : List D} {ns : List Int} {vs : List V}, intsOf xs = some ns → RepL c w H xs vs → vs = ns.map V.int
  | [], ns, vs, h, r => by cases h; simp only [RepL] at r; subst r; rfl
  | x :: xs, ns, vs, h, r => by
    obtain ⟨v, q, rfl, r1, r2⟩ := r.uncons
    cases x with
    | int i =>
      simp only [intsOf] at h
      obtain ⟨ms, e, rfl⟩ := Option.map_eq_some_iff.mp h
      rw [rep_int] at r1; subst r1
      rw [intsOf_ok e r2]; rfl
    | _ => simp [intsOf] at h
theorem blsOf_ok : ∀ {xs : List D} {ns : List Bool} {vs : List V}, blsOf xs = some ns → RepL c w H xs vs → vs = ns.map V.bl
  | [], ns, vs, h, r => by cases h; simp only [RepL] at r; subst r; rfl
  | x :: xs, ns, vs, h, r => by
    obtain ⟨v, q, rfl, r1, r2⟩ := r.uncons
    cases x with
    | bl i =>
      simp only [blsOf] at h
      obtain ⟨ms, e, rfl⟩ := Option.map_eq_some_iff.mp h
      rw [rep_bl] at r1; subst r1
      rw [blsOf_ok e r2]; rfl
    | _ => simp [blsOf] at h
theorem foldl_max : ∀ (xs : List Int) (x : Int), (xs.foldl max x = x ∨ xs.foldl max x ∈ xs) ∧ x ≤ xs.foldl max x ∧ ∀ y ∈ xs, y ≤ xs.foldl max x
  | [], x => by simp
  | z :: xs, x => by
    obtain ⟨h1, h2, h3⟩ := foldl_max xs (max x z)
    simp only [List.foldl_cons, List.mem_cons]
    refine ⟨?_, by omega, fun y hy => ?_⟩
    · rcases h1 with h1 | h1
      · by_cases hz : x ≤ z
        · exact .inr (.inl (by omega))
        · exact .inl (by omega)
      · exact .inr (.inr h1)
    · rcases hy with rfl | hy
      · omega
      · exact h3 y hy
theorem foldl_min : ∀ (xs : List Int) (x : Int), (xs.foldl min x = x ∨ xs.foldl min x ∈ xs) ∧ xs.foldl min x ≤ x ∧ ∀ y ∈ xs, xs.foldl min x ≤ y
  | [], x => by simp
  | z :: xs, x => by
    obtain ⟨h1, h2, h3⟩ := foldl_min xs (min x z)
    simp only [List.foldl_cons, List.mem_cons]
    refine ⟨?_, by omega, fun y hy => ?_⟩
    · rcases h1 with h1 | h1
      · by_cases hz : z ≤ x
        · exact .inr (.inl (by omega))
        · exact .inl (by omega)
      · exact .inr (.inr h1)
    · rcases hy with rfl | hy
      · omega
      · exact h3 y hy
theorem maxI_eq {ns : List Int} {m : Int} (h1 : m ∈ ns) (h2 : ∀ y ∈ ns, y ≤ m) : m = maxI ns := by
  cases ns with
  | nil => cases h1
  | cons x xs =>
    obtain ⟨a, b, d⟩ := foldl_max xs x
    have e : maxI (x :: xs) = xs.foldl max x := rfl
    rw [e]
    have h3 : m ≤ xs.foldl max x := by
      rcases List.mem_cons.mp h1 with rfl | h
      · exact b
      · exact d m h
    have h4 : xs.foldl max x ≤ m := by
      rcases a with a | a
      · rw [a]; exact h2 x List.mem_cons_self
      · exact h2 _ (List.mem_cons_of_mem _ a)
    omega
theorem minI_eq {ns : List Int} {m : Int} (h1 : m ∈ ns) (h2 : ∀ y ∈ ns, m ≤ y) : m = minI ns := by
  cases ns with
  | nil => cases h1
  | cons x xs =>
    obtain ⟨a, b, d⟩ := foldl_min xs x
    have e : minI (x :: xs) = xs.foldl min x := rfl
    rw [e]
    have h3 : xs.foldl min x ≤ m := by
      rcases List.mem_cons.mp h1 with rfl | h
      · exact b
      · exact d m h
    have h4 : m ≤ xs.foldl min x := by
      rcases a with a | a
      · rw [a]; exact h2 x List.mem_cons_self
      · exact h2 _ (List.mem_cons_of_mem _ a)
    omega
theorem rep1 {d : D} {vs : List V} (r : RepL c w H [d] vs) : ∃ v, vs = [v] ∧ Rep c w H d v := by
  obtain ⟨v, q, rfl, r1, r2⟩ := r.uncons
  simp only [RepL] at r2; subst r2
  exact ⟨v, rfl, r1⟩
theorem rep2 {d e : D} {vs : List V} (r : RepL c w H [d, e] vs) : ∃ v u, vs = [v, u] ∧ Rep c w H d v ∧ Rep c w H e u := by
  obtain ⟨v, q, rfl, r1, r2⟩ := r.uncons
  obtain ⟨u, rfl, r3⟩ := rep1 r2
  exact ⟨v, u, rfl, r1, r3⟩
theorem rep0 {vs : List V} (r : RepL c w H [] vs) : vs = [] := by simpa only [RepL] using r
theorem lints_ok (S : Sim c w M H) {d : D} {ns : List Int} {v : V} (h : (lstOf M d).bind intsOf = some ns) (r : Rep c w H d v) : ∃ a, v = .ref a ∧ SqL c.K H a (ns.map V.int) := by
  obtain ⟨xs, e1, e2⟩ := Option.bind_eq_some_iff.mp h
  obtain ⟨a, vs, rfl, q, z, rr⟩ := lstOf_ok S e1 r
  rw [intsOf_ok e2 rr] at q
  exact ⟨a, rfl, q⟩
theorem lbls_ok (S : Sim c w M H) {d : D} {ns : List Bool} {v : V} (h : (lstOf M d).bind blsOf = some ns) (r : Rep c w H d v) : ∃ a, v = .ref a ∧ SqL c.K H a (ns.map V.bl) := by
  obtain ⟨xs, e1, e2⟩ := Option.bind_eq_some_iff.mp h
  obtain ⟨a, vs, rfl, q, z, rr⟩ := lstOf_ok S e1 r
  rw [blsOf_ok e2 rr] at q
  exact ⟨a, rfl, q⟩
theorem b_abs : CallR X (.builtin "abs") (rVn c absD) := by
  intro pins s σ H xs us Q I r h
  obtain ⟨w, M, ds, E, S, r1, h⟩ := h
  unfold absD at h
  split at h
  · obtain ⟨v, rfl, r2⟩ := rep1 r1
    rw [rep_int] at r2; subst r2
    exact call_abs pins s σ H _ us Q I r ⟨_, rfl, h.ret S (rep_int.mpr rfl)⟩
  · exact h.elim
theorem b_int : CallR X (.type "int") (rVn c intD) := by
  intro pins s σ H xs us Q I r h
  obtain ⟨w, M, ds, E, S, r1, h⟩ := h
  unfold intD at h
  split at h
  · obtain ⟨v, rfl, r2⟩ := rep1 r1
    rw [rep_int] at r2; subst r2
    exact call_int1 pins s σ H _ us Q I r (.inl ⟨_, rfl, h.ret S (rep_int.mpr rfl)⟩)
  · obtain ⟨v, rfl, r2⟩ := rep1 r1
    rw [rep_bl] at r2; subst r2
    exact call_int1 pins s σ H _ us Q I r (.inr ⟨_, rfl, h.ret S (rep_int.mpr rfl)⟩)
  · obtain ⟨v, rfl, r2⟩ := rep1 r1
    rw [rep_str] at r2
    obtain ⟨rfl, _, _⟩ := r2
    split at h
    · rename_i n hn
      split at h
      · rename_i hl
        exact call_int_str pins s σ H _ us Q I r ⟨_, n, rfl, hn, by show Array.size _ ≤ 640; simpa using hl, h.ret S (rep_int.mpr rfl)⟩
      · exact h.elim
    · exact h.elim
  · exact h.elim
theorem b_str : CallR X (.type "str") (rVn c strD) := by
  intro pins s σ H xs us Q I r h
  obtain ⟨w, M, ds, E, S, r1, h⟩ := h
  unfold strD at h
  split at h
  · split at h
    · rename_i hz
      obtain ⟨v, rfl, r2⟩ := rep1 r1
      rw [rep_int] at r2; subst r2
      refine call_str_int pins s σ H _ us Q I r ⟨_, rfl, by omega, ?_⟩
      refine h.ret S (rep_str.mpr ⟨?_, hz.2.1, hz.2.2⟩)
      unfold intL
      simp
    · exact h.elim
  · exact h.elim
theorem b_max2 (hc : X.calm = true) : CallR X (.builtin "max") (rVn c max2D) := by
  intro pins s σ H xs us Q I r h
  obtain ⟨w, M, ds, E, S, r1, h⟩ := h
  unfold max2D at h
  split at h
  · obtain ⟨v, u, rfl, r2, r3⟩ := rep2 r1
    rw [rep_int] at r2 r3; subst r2 r3
    exact call_max2 hc pins s σ H _ us Q I r ⟨_, _, rfl, h.ret S (rep_int.mpr rfl)⟩
  · exact h.elim
theorem b_min2 (hc : X.calm = true) : CallR X (.builtin "min") (rVn c min2D) := by
  intro pins s σ H xs us Q I r h
  obtain ⟨w, M, ds, E, S, r1, h⟩ := h
  unfold min2D at h
  split at h
  · obtain ⟨v, u, rfl, r2, r3⟩ := rep2 r1
    rw [rep_int] at r2 r3; subst r2 r3
    exact call_min2 hc pins s σ H _ us Q I r ⟨_, _, rfl, h.ret S (rep_int.mpr rfl)⟩
  · exact h.elim
theorem maxOf_I : ∀ (xs : List Int) (x : Int), PySem.W.maxOf x xs = xs.foldl max x
  | [], x => rfl
  | y :: ys, x => by
    have e : (if PySem.W.DatumOrd.lt x y = true then y else x) = max x y := by
      show (if decide (x < y) = true then y else x) = max x y
      by_cases h : x < y
      · rw [if_pos (by simpa using h)]; omega
      · rw [if_neg (by simpa using h)]; omega
    show PySem.W.maxOf (if PySem.W.DatumOrd.lt x y = true then y else x) ys = ys.foldl max (max x y)
    rw [e]
    exact maxOf_I ys _
theorem minOf_I : ∀ (xs : List Int) (x : Int), PySem.W.minOf x xs = xs.foldl min x
  | [], x => rfl
  | y :: ys, x => by
    have e : (if PySem.W.DatumOrd.lt y x = true then y else x) = min x y := by
      show (if decide (y < x) = true then y else x) = min x y
      by_cases h : y < x
      · rw [if_pos (by simpa using h)]; omega
      · rw [if_neg (by simpa using h)]; omega
    show PySem.W.minOf (if PySem.W.DatumOrd.lt y x = true then y else x) ys = ys.foldl min (min x y)
    rw [e]
    exact minOf_I ys _
theorem holdI {h : Heap} : ∀ {us : List Value} {ns : List Int}, IntsAre us ns → PySem.W.HoldAll h us ns
  | _, _, .nil => PySem.W.HoldAll.nil
  | _, _, .cons _ _ r => PySem.W.HoldAll.cons ⟨_, .int _ _⟩ (holdI r)
theorem tupI_ok {d : D} {ns : List Int} {v : V} (h : tupI d = some ns) (r : Rep c w H d v) : ∃ a, v = .ref a ∧ SqT c.K H a (ns.map V.int) := by
  unfold tupI at h
  split at h
  · obtain ⟨a, vs, rfl, q, z, rr⟩ := rep_tup.mp r
    rw [intsOf_ok h rr] at q
    exact ⟨a, rfl, q.sq⟩
  · cases h
theorem cr_maxT (hc : X.calm = true) (hu : X.A.units + 65 < cLine) : CallR X (.builtin "max") (fun vs H Q => ∃ (a : Addr) (ns : List Int), vs = [V.ref a] ∧ SqT X.K H a (ns.map V.int) ∧ ns ≠ [] ∧ Q (.int (maxI ns)) H) := by
  intro pins s σ H vs us Q I r h
  obtain ⟨a, ns, rfl, hs, hne, q⟩ := h
  obtain ⟨its, rv, hT, _⟩ := I.tuple hs
  rw [Vals.ref1 r]
  cases ns with
  | nil => exact absurd rfl hne
  | cons n ns =>
    refine PySem.W.max_tuple_datum (α := Int) (x := n) (xs := ns) (I.ok.hd hc) hT (holdI rv.ints) (by show X.A.units + 1 + 0 < cLine; omega) fun i v h' tk hi hv hk => ?_
    rw [maxOf_I] at hv
    obtain ⟨as, hv⟩ := hv
    cases hv with
    | int _ t => exact ⟨.int _, H, I.kept hk, ⟨_, rfl⟩, q⟩
theorem cr_minT (hc : X.calm = true) (hu : X.A.units + 65 < cLine) : CallR X (.builtin "min") (fun vs H Q => ∃ (a : Addr) (ns : List Int), vs = [V.ref a] ∧ SqT X.K H a (ns.map V.int) ∧ ns ≠ [] ∧ Q (.int (minI ns)) H) := by
  intro pins s σ H vs us Q I r h
  obtain ⟨a, ns, rfl, hs, hne, q⟩ := h
  obtain ⟨its, rv, hT, _⟩ := I.tuple hs
  rw [Vals.ref1 r]
  cases ns with
  | nil => exact absurd rfl hne
  | cons n ns =>
    refine PySem.W.min_tuple_datum (α := Int) (x := n) (xs := ns) (I.ok.hd hc) hT (holdI rv.ints) (by show X.A.units + 1 + 0 < cLine; omega) fun i v h' tk hi hv hk => ?_
    rw [minOf_I] at hv
    obtain ⟨as, hv⟩ := hv
    cases hv with
    | int _ t => exact ⟨.int _, H, I.kept hk, ⟨_, rfl⟩, q⟩
theorem b_maxl (hK : X.K = c.K) (hc : X.calm = true) (hu : X.A.units + 65 < cLine) : CallR X (.builtin "max") (rVn c maxlD) := by
  intro pins s σ H xs us Q I r h
  obtain ⟨w, M, ds, E, S, r1, h⟩ := h
  unfold maxlD at h
  split at h
  · split at h
    · rename_i ns hn
      split at h
      · exact h.elim
      · rename_i hne
        obtain ⟨v, rfl, r2⟩ := rep1 r1
        obtain ⟨a, rfl, q⟩ := lints_ok S hn r2
        refine cr_max hc pins s σ H _ us Q I r ⟨a, ns, rfl, by rw [hK]; exact q, List.length_pos_iff.mpr hne, fun m h1 h2 => ?_⟩
        rw [maxI_eq h1 h2]
        exact h.ret S (rep_int.mpr rfl)
    · rename_i hn
      unfold maxtD at h
      split at h
      · rename_i ns ht
        split at h
        · exact h.elim
        · rename_i hne
          obtain ⟨v, rfl, r2⟩ := rep1 r1
          obtain ⟨a, rfl, q⟩ := tupI_ok ht r2
          exact cr_maxT hc hu pins s σ H _ us Q I r ⟨a, ns, rfl, by rw [hK]; exact q, hne, h.ret S (rep_int.mpr rfl)⟩
      · exact h.elim
  · exact h.elim
theorem b_minl (hK : X.K = c.K) (hc : X.calm = true) (hu : X.A.units + 65 < cLine) : CallR X (.builtin "min") (rVn c minlD) := by
  intro pins s σ H xs us Q I r h
  obtain ⟨w, M, ds, E, S, r1, h⟩ := h
  unfold minlD at h
  split at h
  · split at h
    · rename_i ns hn
      split at h
      · exact h.elim
      · rename_i hne
        obtain ⟨v, rfl, r2⟩ := rep1 r1
        obtain ⟨a, rfl, q⟩ := lints_ok S hn r2
        refine cr_min hc pins s σ H _ us Q I r ⟨a, ns, rfl, by rw [hK]; exact q, List.length_pos_iff.mpr hne, fun m h1 h2 => ?_⟩
        rw [minI_eq h1 h2]
        exact h.ret S (rep_int.mpr rfl)
    · rename_i hn
      unfold mintD at h
      split at h
      · rename_i ns ht
        split at h
        · exact h.elim
        · rename_i hne
          obtain ⟨v, rfl, r2⟩ := rep1 r1
          obtain ⟨a, rfl, q⟩ := tupI_ok ht r2
          exact cr_minT hc hu pins s σ H _ us Q I r ⟨a, ns, rfl, by rw [hK]; exact q, hne, h.ret S (rep_int.mpr rfl)⟩
      · exact h.elim
  · exact h.elim
theorem b_sum (hK : X.K = c.K) (hc : X.calm = true) : CallR X (.builtin "sum") (rVn c sumD) := by
  intro pins s σ H xs us Q I r h
  obtain ⟨w, M, ds, E, S, r1, h⟩ := h
  unfold sumD at h
  split at h
  · split at h
    · rename_i ns hn
      obtain ⟨v, rfl, r2⟩ := rep1 r1
      obtain ⟨a, rfl, q⟩ := lints_ok S hn r2
      exact cr_sum hc pins s σ H _ us Q I r ⟨a, ns, rfl, by rw [hK]; exact q, h.ret S (rep_int.mpr rfl)⟩
    · exact h.elim
  · exact h.elim
theorem b_all (hK : X.K = c.K) (hc : X.calm = true) : CallR X (.builtin "all") (rVn c allD) := by
  intro pins s σ H xs us Q I r h
  obtain ⟨w, M, ds, E, S, r1, h⟩ := h
  unfold allD at h
  split at h
  · split at h
    · rename_i ns hn
      obtain ⟨v, rfl, r2⟩ := rep1 r1
      obtain ⟨a, rfl, q⟩ := lbls_ok S hn r2
      exact cr_all hc pins s σ H _ us Q I r ⟨a, ns, rfl, by rw [hK]; exact q, h.ret S (rep_bl.mpr rfl)⟩
    · exact h.elim
  · exact h.elim
theorem b_len (hK : X.K = c.K) : CallR X (.builtin "len") (rVn c lenD) := by
  intro pins s σ H xs us Q I r h
  obtain ⟨w, M, ds, E, S, r1, h⟩ := h
  unfold lenD at h
  split at h
  · obtain ⟨v, rfl, r2⟩ := rep1 r1
    rw [rep_str] at r2
    obtain ⟨rfl, z, _⟩ := r2
    exact call_len_str pins s σ H _ us Q I r ⟨_, rfl, by simpa [Str.length] using z, by
      have e : ((⟨(‹List Nat›).toArray⟩ : Str).length : Int) = ((‹List Nat›).length : Int) := by simp [Str.length]
      rw [e]
      exact h.ret S (rep_int.mpr rfl)⟩
  · obtain ⟨v, rfl, r2⟩ := rep1 r1
    unfold lenD1 at h
    split at h
    · rename_i ys e1
      obtain ⟨a, vs, rfl, q, z, rr⟩ := seqOf_ok S e1 r2
      refine call_len_seq pins s σ H _ us Q I r ⟨a, vs, rfl, by rw [hK]; exact q, ?_⟩
      rw [← rr.len]
      exact h.ret S (rep_int.mpr rfl)
    · split at h
      · rename_i t ks vs e1
        obtain ⟨i, a, _, rfl, hi, hM, hO⟩ := dicOf_ok S e1 r2
        obtain ⟨l, z, hh⟩ := hO
        cases t with
        | one =>
          obtain ⟨kvs, e, _, rfl, _⟩ := hh
          refine call_lenD pins s σ H _ us Q I r ⟨a, kvs, rfl, e, ?_⟩
          rw [List.length_map] at h
          exact h.ret S (rep_int.mpr rfl)
        | tup =>
          obtain ⟨kvs, xs, dm, rfl, _⟩ := repO_dm (c := c) ⟨l, z, hh⟩
          refine call_len_dM pins s σ H _ us Q I r ⟨a, kvs, xs, rfl, by rw [hK]; exact dm, ?_⟩
          rw [List.length_map] at h
          exact h.ret S (rep_int.mpr rfl)
        | two =>
          obtain ⟨kvs, e, _, rfl, _⟩ := hh
          refine call_len_dT pins s σ H _ us Q I r ⟨a, kvs, rfl, e, ?_⟩
          rw [List.length_map] at h
          exact h.ret S (rep_int.mpr rfl)
      · exact h.elim
  · exact h.elim
theorem keysRep (S : Sim c w M H) : ∀ {kvs : List (List Key × V)} {bs : List Addr} {ks : List D}, (∀ p ∈ kvs, p.1.length ≤ sizeLine ∧ RepL c w H (p.1.map kD) (p.1.map kV)) → IsKeys H kvs bs → ks = kvs.map (fun p => D.tup (p.1.map kD)) → RepL c w H ks (bs.map V.ref)
  | [], _, ks, _, .nil, e => by subst e; exact RepL.nil
  | p :: kvs, _, ks, rk, .cons h t, e => by
    subst e
    have hp := rk p List.mem_cons_self
    refine RepL.cons (rep_tup.mpr ⟨_, _, rfl, .inl ⟨fun m => ?_, h⟩, by rw [List.length_map]; exact hp.1, hp.2⟩) (keysRep S (fun q hq => rk q (List.mem_cons_of_mem _ hq)) t rfl)
    obtain ⟨o, e1, e2⟩ := S.mu_some m
    rw [h] at e1
    cases e1
    exact e2
theorem keysRepM {kvs : List (List Key × V)} {xs : List (List Key × Addr × Value)} {ks : List D} (kn : KN kvs xs) (e : ks = kvs.map (fun p => D.tup (p.1.map kD))) (r : ∀ q ∈ xs, Rep c w H (.tup (q.1.map kD)) (.ref q.2.1)) : RepL c w H ks (xs.map fun q => V.ref q.2.1) := by
  have e1 : ks = xs.map fun q => D.tup (q.1.map kD) := by
    have h1 := kn.keys
    have h2 : kvs.map (fun p => D.tup (p.1.map kD)) = (kvs.map (·.1)).map fun k => D.tup (k.map kD) := by rw [List.map_map]; rfl
    rw [e, h2, h1, List.map_map]
    rfl
  rw [e1]
  clear e1 e kn
  induction xs with
  | nil => exact RepL.nil
  | cons q xs ih => exact RepL.cons (r q List.mem_cons_self) (ih fun q hq => r q (List.mem_cons_of_mem _ hq))
theorem b_list (hK : X.K = c.K) (hc : X.calm = true) (m : Bool) : CallR X (.type "list") (rVn c (listD m)) := by
  intro pins s σ H xs us Q I r h
  obtain ⟨w, M, ds, E, S, r1, h⟩ := h
  unfold listD at h
  split at h
  · split at h
    · rename_i ys e1
      obtain ⟨v, rfl, r2⟩ := rep1 r1
      obtain ⟨a, vs, rfl, q, z, rr⟩ := seqOf_ok S e1 r2
      exact call_list_of pins s σ H _ us Q I r ⟨a, vs, rfl, by rw [hK]; exact q, mkL_ok S rr z h⟩
    · split at h
      · rename_i t ks vs e1
        obtain ⟨v, rfl, r2⟩ := rep1 r1
        obtain ⟨i, a, rfl, rfl, hi, hM, hO⟩ := dicOf_ok S e1 r2
        obtain ⟨l, z, hh⟩ := hO
        cases t with
        | one =>
          obtain ⟨kvs, e, n, e2, rk, rv⟩ := hh
          exact call_list_dK hc pins s σ H _ us Q I r ⟨a, kvs, rfl, e, mkL_ok S rk z h⟩
        | tup =>
          obtain ⟨kvs, xs, dm, e2, r1, rv⟩ := repO_dm (c := c) ⟨l, z, hh⟩
          exact call_list_dM hc pins s σ H _ us Q I r ⟨a, kvs, xs, rfl, by rw [hK]; exact dm, fun p hp => mkL_ok S (keysRepM dm.kn e2 r1) z h p hp⟩
        | two =>
          obtain ⟨kvs, e, n, e2, rk, rv⟩ := hh
          exact call_list_dT hc pins s σ H _ us Q I r ⟨a, kvs, rfl, .inl e, fun p bs hp hb => mkL_ok S (keysRep S rk hb e2) z h p hp⟩
      · exact h.elim
  · exact h.elim
theorem b_tuple (hK : X.K = c.K) : CallR X (.type "tuple") (rVn c tupleD) := by
  intro pins s σ H xs us Q I r h
  obtain ⟨w, M, ds, E, S, r1, h⟩ := h
  unfold tupleD at h
  split at h
  · rename_i d
    split at h
    · rename_i ys e1
      obtain ⟨v, rfl, r2⟩ := rep1 r1
      cases d with
      | tup zs =>
        cases e1
        obtain ⟨a, vs, rfl, q, z, rr⟩ := rep_tup.mp r2
        exact call_tuple_of pins s σ H _ us Q I r ⟨a, vs, rfl, .inr ⟨by rw [hK]; exact q.sq, h.ret S r2⟩⟩
      | lst zs =>
        obtain ⟨a, vs, rfl, q, z, rr⟩ := lstOf_ok S (show lstOf M (.lst zs) = some ys from e1) r2
        exact call_tuple_of pins s σ H _ us Q I r ⟨a, vs, rfl, .inl ⟨by rw [hK]; exact q, mkT_ok S rr z h⟩⟩
      | ref i =>
        obtain ⟨a, vs, rfl, q, z, rr⟩ := lstOf_ok S (show lstOf M (.ref i) = some ys from e1) r2
        exact call_tuple_of pins s σ H _ us Q I r ⟨a, vs, rfl, .inl ⟨by rw [hK]; exact q, mkT_ok S rr z h⟩⟩
      | _ => simp [seqOf] at e1
    · exact h.elim
  · exact h.elim
theorem cellW {i : Nat} {a : Addr} {o : HO} {mo : MO} {d : D} {v : V} {Q : VK} {E : XK} (S : Sim c w M H) (hi : w.ι[i]? = some a) (hn : ∀ x u, H a ≠ some (.frz x u)) (ho : RepO c w (upd H a o) a mo) (rd : Rep c w H d v)
    (h : OkG c (Rep c) w H (.ok d (M.set i mo)) Q E) : Q v (upd H a o) :=
  h w _ v (Stp.write hi hn) (S.write hi ho) (Rep.mono (Stp.write hi hn) _ _ rd)
theorem cellL {i : Nat} {a : Addr} {ys : List D} {vs : List V} {d : D} {v : V} {Q : VK} {E : XK} (S : Sim c w M H) (hi : w.ι[i]? = some a) (hn : ∀ x u, H a ≠ some (.frz x u)) (r : RepL c w H ys vs) (z : ys.length ≤ sizeLine) (rd : Rep c w H d v)
    (h : OkG c (Rep c) w H (.ok d (M.set i (.lst ys))) Q E) : Q v (upd H a (.lst vs)) :=
  cellW (mo := .lst ys) S hi hn ⟨vs, upd_same, z, RepL.mono (Stp.write hi hn) _ _ r⟩ rd h
theorem mem_join {S : List Nat} : ∀ {ps : List (List Nat)} {x : Nat}, x ∈ TL.joinL S ps → x ∈ S ∨ ∃ p ∈ ps, x ∈ p
  | [], x, h => by cases h
  | [p], x, h => .inr ⟨p, by simp, h⟩
  | p :: q :: r, x, h => by
    rcases List.mem_append.mp (show x ∈ p ++ (S ++ TL.joinL S (q :: r)) from h) with h | h
    · exact .inr ⟨p, by simp, h⟩
    · rcases List.mem_append.mp h with h | h
      · exact .inl h
      · rcases mem_join h with h | ⟨z, hz, h⟩
        · exact .inl h
        · exact .inr ⟨z, List.mem_cons_of_mem _ hz, h⟩
def toS (l : List Nat) : Str := ⟨l.toArray⟩
theorem strs_rep : ∀ {ds : List D} {vs : List V} {ps : List (List Nat)}, strsOf ds = some ps → RepL c w H ds vs → vs = (ps.map toS).map V.str ∧ ∀ p ∈ ps, ∀ x ∈ p, x < 1114112
  | [], vs, ps, h, r => by
    simp only [strsOf, Option.some.injEq] at h
    subst h
    simp only [RepL] at r
    subst r
    exact ⟨rfl, fun p hp => by cases hp⟩
  | d :: ds, vs, ps, h, r => by
    cases d with
    | str l =>
      simp only [strsOf] at h
      cases hq : strsOf ds with
      | none => rw [hq] at h; cases h
      | some qs =>
        rw [hq] at h
        cases h
        obtain ⟨v, r', rfl, r1, r2⟩ := r.uncons
        obtain ⟨rfl, _, hc⟩ := rep_str.mp r1
        obtain ⟨rfl, h2⟩ := strs_rep hq r2
        exact ⟨rfl, fun p hp => (List.mem_cons.mp hp).elim (fun e => e ▸ hc) (h2 p)⟩
    | _ => simp [strsOf] at h
theorem m_join (hK : X.K = c.K) : MtR X "str.join" (rVm c joinD) := by
  intro pins s σ H x xs v us Q I rx r h
  obtain ⟨w, M, d, ds, E, S, r1, r2, h⟩ := h
  unfold joinD at h
  split at h
  · rename_i sep d1
    split at h
    · rename_i ps hps
      split at h
      · rename_i hz
        obtain ⟨u, rfl, r3⟩ := rep1 r2
        obtain ⟨rfl, _, hs⟩ := rep_str.mp r1
        obtain ⟨xs, hq, hp⟩ := Option.bind_eq_some_iff.mp hps
        obtain ⟨a, vs, rfl, q, z, rr⟩ := seqOf_ok S hq r3
        obtain ⟨rfl, hc⟩ := strs_rep hp rr
        have e : TL.tl (PySem.Txt.join (toS sep) (ps.map toS)) = TL.joinL sep ps := by
          rw [TL.join_eq, TL.tl_join, List.map_map]
          show TL.joinL sep (ps.map fun p => p) = _
          rw [List.map_id']
        have e2 : PySem.Txt.join (toS sep) (ps.map toS) = toS (TL.joinL sep ps) := TL.ext_tl e
        refine mt_join pins s σ H _ _ v us Q I rx r ⟨toS sep, a, ps.map toS, rfl, rfl, by rw [hK]; exact q, ?_, ?_⟩
        · rw [List.map_map, List.length_map]
          exact hz.1
        · rw [e2]
          refine h.ret S (rep_str.mpr ⟨rfl, hz.2, fun x hx => ?_⟩)
          rcases mem_join hx with hx | ⟨p, hp, hx⟩
          · exact hs x hx
          · exact hc p hp x hx
      · exact h.elim
    · exact h.elim
  · exact h.elim
theorem rep_strs {ps : List (List Nat)} (h : ∀ p ∈ ps, p.length ≤ sizeLine ∧ ∀ x ∈ p, x < 1114112) : RepL c w H (ps.map D.str) ((ps.map toS).map V.str) := by
  induction ps with
  | nil => exact RepL.nil
  | cons p ps ih =>
    exact RepL.cons (rep_str.mpr ⟨rfl, h p (by simp)⟩) (ih fun q hq => h q (List.mem_cons_of_mem _ hq))
theorem m_split (m : Bool) : MtR X "str.split" (rVm c (splitD m)) := by
  intro pins s σ H x xs v us Q I rx r h
  obtain ⟨w, M, d, ds, E, S, r1, r2, h⟩ := h
  unfold splitD at h
  split at h
  · rename_i l t ts
    split at h
    · rename_i hz
      obtain ⟨h1, h2, h3, h4⟩ := hz
      obtain ⟨u, rfl, r3⟩ := rep1 r2
      obtain ⟨rfl, _, _⟩ := rep_str.mp r1
      obtain ⟨rfl, _, _⟩ := rep_str.mp r3
      have e : (PySem.Txt.split (toS l) (toS (t :: ts))) = (TL.spl (t :: ts) 0 [] l).map toS := by
        refine TL.map_tl_inj ?_
        rw [TL.split_spl _ _ (by simp [toS]) (TL.kind_ok (by simpa [toS] using h2)), List.map_map]
        show TL.spl (t :: ts) 0 [] l = (TL.spl (t :: ts) 0 [] l).map fun p => p
        rw [List.map_id']
      refine mt_split pins s σ H _ _ v us Q I rx r ⟨toS l, toS (t :: ts), rfl, rfl, by simp [toS, Str.length], by simpa [toS, Str.length, line] using h1, ?_⟩
      rw [e]
      exact mkL_ok S (rep_strs h4) (by rw [List.length_map]; exact h3) h
    · exact h.elim
  · exact h.elim
theorem m_append : MtR X "list.append" (rVm c appendD) := by
  intro pins s σ H x xs v us Q I rx r h
  obtain ⟨w, M, d, ds, E, S, r1, r2, h⟩ := h
  unfold appendD at h
  split at h
  · split at h
    · rename_i ys hM
      split at h
      · rename_i hz
        obtain ⟨u, rfl, r3⟩ := rep1 r2
        obtain ⟨a, rfl, hi⟩ := rep_ref.mp r1
        obtain ⟨vs, e2, z, rr⟩ := S.cell _ a (.lst ys) hi hM
        have hl := rr.len
        have hz' : ys.length < sizeLine := hz
        exact mt_append pins s σ H _ _ v us Q I rx r ⟨a, vs, u, rfl, rfl, e2, by omega, cellL S hi (nf e2 trivial) (rr.append (RepL.cons r3 RepL.nil)) (by rw [List.length_append]; exact hz') (rep_non.mpr rfl) h⟩
      · exact h.elim
    · exact h.elim
  · exact h.elim
theorem m_extend : MtR X "list.extend" (rVm c extendD) := by
  intro pins s σ H x xs v us Q I rx r h
  obtain ⟨w, M, d, ds, E, S, r1, r2, h⟩ := h
  unfold extendD at h
  split at h
  · split at h
    · rename_i ys zs hM hM2
      split at h
      · rename_i hz
        obtain ⟨u, rfl, r3⟩ := rep1 r2
        obtain ⟨a, rfl, hi⟩ := rep_ref.mp r1
        obtain ⟨b, rfl, hj⟩ := rep_ref.mp r3
        obtain ⟨vs, e2, z, rr⟩ := S.cell _ a (.lst ys) hi hM
        obtain ⟨vs2, e3, z2, rr2⟩ := S.cell _ b (.lst zs) hj hM2
        have hl := rr.len
        have hl2 := rr2.len
        have hz' : ys.length + zs.length ≤ sizeLine := hz
        exact mt_extend pins s σ H _ _ v us Q I rx r ⟨a, b, vs, vs2, rfl, rfl, e2, e3, by omega, cellL S hi (nf e2 trivial) (rr.append rr2) (by rw [List.length_append]; exact hz') (rep_non.mpr rfl) h⟩
      · exact h.elim
    · exact h.elim
  · exact h.elim
theorem m_pop : MtR X "list.pop" (rVm c popD) := by
  intro pins s σ H x xs v us Q I rx r h
  obtain ⟨w, M, d, ds, E, S, r1, r2, h⟩ := h
  unfold popD at h
  split at h
  · split at h
    · rename_i ys hM
      split at h
      · rename_i y hy
        have := rep0 r2
        subst this
        obtain ⟨a, rfl, hi⟩ := rep_ref.mp r1
        obtain ⟨vs, e2, z, rr⟩ := S.cell _ a (.lst ys) hi hM
        have hl := rr.len
        obtain ⟨u, hu, ru⟩ := rr.get hy
        exact mt_pop pins s σ H _ _ v us Q I rx r ⟨a, vs, u, rfl, rfl, e2, by rw [← hl]; exact hu, cellL S hi (nf e2 trivial) rr.dropLast (by rw [List.length_dropLast]; omega) ru h⟩
      · exact h.elim
    · exact h.elim
  · exact h.elim
theorem m_reverse : MtR X "list.reverse" (rVm c reverseD) := by
  intro pins s σ H x xs v us Q I rx r h
  obtain ⟨w, M, d, ds, E, S, r1, r2, h⟩ := h
  unfold reverseD at h
  split at h
  · split at h
    · rename_i ys hM
      have := rep0 r2
      subst this
      obtain ⟨a, rfl, hi⟩ := rep_ref.mp r1
      obtain ⟨vs, e2, z, rr⟩ := S.cell _ a (.lst ys) hi hM
      exact mt_reverse pins s σ H _ _ v us Q I rx r ⟨a, vs, rfl, rfl, e2, cellL S hi (nf e2 trivial) rr.reverse (by rw [List.length_reverse]; exact z) (rep_non.mpr rfl) h⟩
    · exact h.elim
  · exact h.elim
theorem m_clear : MtR X "list.clear" (rVm c clearD) := by
  intro pins s σ H x xs v us Q I rx r h
  obtain ⟨w, M, d, ds, E, S, r1, r2, h⟩ := h
  unfold clearD at h
  split at h
  · split at h
    · rename_i ys hM
      have := rep0 r2
      subst this
      obtain ⟨a, rfl, hi⟩ := rep_ref.mp r1
      obtain ⟨vs, e2, z, rr⟩ := S.cell _ a (.lst ys) hi hM
      exact mt_clear pins s σ H _ _ v us Q I rx r ⟨a, vs, rfl, rfl, e2, cellL S hi (nf e2 trivial) RepL.nil (Nat.zero_le _) (rep_non.mpr rfl) h⟩
    · exact h.elim
  · exact h.elim
end
end Fw
namespace Fw
open PySem PySem.Spec PyProof.Rows L2
def notStar : Expr → Bool
  | .Starred _ _ => false
  | _ => true
theorem star_eq {e : Expr} {es : List Expr} {env : Env} (h : notStar e = true) : starEach (e :: es) env = (false, eval e env) :: starEach es env := by
  cases e <;> first | rfl | (simp [notStar] at h)
theorem star_any {env : Env} {pos : Pos} : ∀ {es : List Expr}, es.all notStar = true → (backTo pos (starEach es env)).any (·.1) = false
  | [], _ => rfl
  | e :: es, h => by
    rw [List.all_cons, Bool.and_eq_true] at h
    rw [star_eq h.1]
    show (false || (backTo pos (starEach es env)).any (·.1)) = false
    rw [star_any h.2]; rfl
theorem star_all {env : Env} {pos : Pos} : ∀ {es : List Expr}, es.all notStar = true → (backTo pos (starEach es env)).all (fun x => !x.1) = true
  | [], _ => rfl
  | e :: es, h => by
    rw [List.all_cons, Bool.and_eq_true] at h
    rw [star_eq h.1]
    show (true && (backTo pos (starEach es env)).all _) = true
    rw [star_all h.2]; rfl
def plainBase : Expr → Bool
  | .Call (.Name id _) [] [] _ => id != "super"
  | _ => true
theorem base_eq {o : Expr} {n : Str} {env : Env} (h : plainBase o = true) : attributeBase o n env (eval o env) = eval o env := by
  unfold attributeBase
  split
  · rename_i id p1 p2
    have h : (id != "super") = true := h
    rw [if_pos (by rw [h]; rfl)]
  · rfl
def notComp : Expr → Bool
  | .ListComp .. => false
  | .SetComp .. => false
  | .DictComp .. => false
  | _ => true
theorem swaps_no {e : Expr} {t : Option Expr} {l : Nat} {env : Env} (h : notComp e = true) : swapsWith e t l env = pure false := by
  cases e <;> first | rfl | (simp [notComp] at h)
def notSlice : Expr → Bool
  | .Slice .. => false
  | _ => true
theorem plainIx {b : Expr} (h : notSlice b = true) : PlainIx b := by
  intro o i
  cases b <;> first | rfl | (simp [notSlice] at h)
def plainTest : Expr → Bool
  | .UnaryOp .Not _ _ => false
  | .BoolOp .. => false
  | .IfExp .. => false
  | .Compare .. => false
  | _ => true
theorem test_eq {e : Expr} {env : Env} (h : plainTest e = true) (whole : Sem Value) : isTrue e env whole = (do let v ← whole; standAt e.pos; holding [v] (truthy v)) := by
  cases e with
  | UnaryOp op a pos => cases op <;> first | rfl | (simp [plainTest] at h)
  | BoolOp _ _ _ => simp [plainTest] at h
  | IfExp _ _ _ _ => simp [plainTest] at h
  | Compare _ _ _ _ => simp [plainTest] at h
  | _ => rfl
def toB (d : D) (M : Hh) : Out Bool := match d with
  | .bl b => .ok b M
  | _ => .bad
abbrev RB : Wd → Hp → Bool → Bool → Prop := fun _ _ a b => a = b
def tT (c : Ct) (W : WX) (f : Sl → Hh → Out D) : TT := fun τ H Q => ∃ w M σ, Sim c w M H ∧ RepS c w H σ τ ∧ OkG c RB w H ((f σ M).bind toB) Q (fun cls d H' => W cls d τ H')
section
variable {c : Ct} {W : WX} {τ : L2.St} {w : Wd} {M : Hh} {H : Hp} {σ : Sl} {β δ : Type}
theorem nxtT {R : Wd → Hp → β → δ → Prop} {g : Sl → Hh → Out D} {f : Bool → Hh → Out β} {Q : δ → Hp → Prop} (S : Sim c w M H) (RS : RepS c w H σ τ)
    (h : OkG c R w H (((g σ M).bind toB).bind f) Q (fun cls d H' => W cls d τ H')) :
    tT c W g τ H fun b H1 => ∃ w1 M1, Stp w H w1 H1 ∧ Sim c w1 M1 H1 ∧ RepS c w1 H1 σ τ ∧ OkG c R w1 H1 (f b M1) Q (fun cls d H' => W cls d τ H') :=
  ⟨w, M, σ, S, RS, (OkG.bind (R' := RB) h).imp (fun v H1 ⟨w1, M1, d, s, S1, r, q⟩ => by
    cases (show d = v from r)
    exact ⟨w1, M1, s, S1, RS.mono s, q⟩) fun _ _ _ z => z⟩
theorem tT.imp {f : Sl → Hh → Out D} {Q Q' : Bool → Hp → Prop} (h : tT c W f τ H Q) (q : ∀ v H', Q v H' → Q' v H') : tT c W f τ H Q' := by
  obtain ⟨w, M, σ, S, RS, h⟩ := h
  exact ⟨w, M, σ, S, RS, h.imp q fun _ _ _ z => z⟩
theorem bind_assoc {α : Type} (x : Out α) (f : α → Hh → Out β) (g : β → Hh → Out δ) : (x.bind f).bind g = x.bind fun a M => (f a M).bind g := by cases x <;> rfl
theorem bind_ifB (x : Out D) (t f : Hh → Out β) : (x.bind fun d M => ifB d .bad (t M) (f M)) = (x.bind toB).bind fun b M => if b = true then t M else f M := by
  cases x with
  | ok d M =>
    cases d with
    | bl b => cases b <;> rfl
    | _ => rfl
  | exn _ _ _ => rfl
  | bad => rfl
theorem ifB_bind (x : D) (t f : Out β) (k : β → Hh → Out δ) : (ifB x .bad t f).bind k = ifB x .bad (t.bind k) (f.bind k) := by
  cases x with
  | bl b => cases b <;> rfl
  | _ => rfl
theorem ret_toB {b : Bool} {Q : Bool → Hp → Prop} {E : XK} (h : OkG c RB w H ((Out.ok (.bl b) M).bind toB) Q E) (S : Sim c w M H) : Q b H := OkG.ret h S rfl
end
section
variable {c : Ct} {W : WX} {X : Cx}
theorem pt_E {e : Expr} {f : Sl → Hh → Out D} (h : PE X e (tE c W f)) (ht : plainTest e = true) : PT X e (tT c W f) :=
  (pt_val h fun whole => test_eq ht whole).weak fun τ H Q ⟨w, M, σ, S, RS, h⟩ => (nxt S RS h).imp fun v H1 ⟨w1, M1, d, s, S1, RS1, r, q⟩ => by
    cases d with
    | bl b =>
      rw [rep_bl] at r
      exact ⟨b, r, OkG.ret q S1 rfl⟩
    | _ => exact q.elim
theorem l_var {i : Nat} {x : Str} {pos : Pos} {f : Sl → Hh → Out D} (hf : ∀ σ M, f σ M = match σ[i]? with | some (some d) => .ok d M | _ => .bad) (hN : X.N[i]? = some x) (hv : Vis X.env.scope x) (hd : (x == ("__debug__" : Str)) = false) (hcd : (x == ("__classdict__" : Str)) = false) : PE X (.Name x pos) (tE c W f) :=
  (pe_var hN hv hd hcd).weak fun τ H Q ⟨w, M, σ, S, RS, h⟩ => by
    rw [hf] at h
    split at h
    · rename_i d e
      obtain ⟨v, e2, r⟩ := RS.at_ i d e
      exact ⟨v, e2, OkG.ret h S r⟩
    · exact h.elim
theorem l_lit {x : Expr} {d : D} {v : V} (he : PE X x (tC v)) (hr : ∀ w H, Rep c w H d v) : PE X x (tE c W fun _ M => .ok d M) :=
  he.weak fun τ H Q ⟨w, M, σ, S, RS, h⟩ => OkG.ret h S (hr w H)
theorem l_glo {x : Str} {pos : Pos} {k : Nat} {u : Value} {f : Sl → Hh → Out D} (hf : ∀ σ M, f σ M = match c.gl[k]? with | some d => .ok d M | none => .bad) (hg : Gl X x) (hm : X.mg x = some u) (r : RelV (c.gv k) u) (hd : (x == ("__debug__" : Str)) = false) : PE X (.Name x pos) (tE c W f) :=
  (pe_glob hg hm r hd).weak fun τ H Q ⟨w, M, σ, S, RS, h⟩ => by
    rw [hf] at h
    split at h
    · rename_i d e
      exact OkG.ret h S (S.gl k d e).2
    · exact h.elim
theorem two_of {f g : Sl → Hh → Out D} {k : D → D → Hh → Out D} {τ : L2.St} {H : Hp} {Q : VK} (h : tE c W (fun σ M => (f σ M).bind fun x M1 => (g σ M1).bind fun y M2 => k x y M2) τ H Q) :
    tE c W f τ H fun x H1 => tE c W g τ H1 fun y H2 => rV2 c k x y H2 Q := by
  obtain ⟨w, M, σ, S, RS, h⟩ := h
  exact (nxt S RS h).imp fun v H1 ⟨w1, M1, d, s, S1, RS1, r, q⟩ => (nxt S1 RS1 q).imp fun u H2 ⟨w2, M2, e, s2, S2, RS2, r2, q2⟩ => ⟨w2, M2, d, e, _, S2, Rep.mono s2 _ _ r, r2, q2⟩
theorem l_two {a b : Expr} {op : Operator} {pos : Pos} {f g : Sl → Hh → Out D} {k : D → D → Hh → Out D} (ho : OpR X (binaryOp op) (rV2 c k)) (ha : PE X a (tE c W f)) (hb : PE X b (tE c W g)) :
    PE X (.BinOp a op b pos) (tE c W fun σ M => (f σ M).bind fun x M1 => (g σ M1).bind fun y M2 => k x y M2) :=
  (pe_op ho ha hb).weak fun τ H Q h => two_of h
theorem l_idx {a b : Expr} {pos : Pos} {f g : Sl → Hh → Out D} {k : D → D → Hh → Out D} (ho : IxR X (rV2 c k)) (ha : PE X a (tE c W f)) (hb : PE X b (tE c W g)) (hs : notSlice b = true) :
    PE X (.Subscript a b pos) (tE c W fun σ M => (f σ M).bind fun x M1 => (g σ M1).bind fun y M2 => k x y M2) :=
  (pe_ix ho ha hb (plainIx hs)).weak fun τ H Q h => two_of h
theorem l_neg {a : Expr} {pos : Pos} {f : Sl → Hh → Out D} (ha : PE X a (tE c W f)) : PE X (.UnaryOp .USub a pos) (tE c W fun σ M => (f σ M).bind negD) :=
  (pe_un un_neg ha).weak fun τ H Q ⟨w, M, σ, S, RS, h⟩ => (nxt S RS h).imp fun v H1 ⟨w1, M1, d, s, S1, RS1, r, q⟩ => by
    cases d with
    | int i =>
      rw [rep_int] at r
      exact ⟨i, r, OkG.ret q S1 (rep_int.mpr rfl)⟩
    | _ => exact q.elim
theorem l_not {a : Expr} {pos : Pos} {f : Sl → Hh → Out D} (ha : PE X a (tE c W f)) : PE X (.UnaryOp .Not a pos) (tE c W fun σ M => (f σ M).bind notD) :=
  (pe_not ha).weak fun τ H Q ⟨w, M, σ, S, RS, h⟩ => (nxt S RS h).imp fun v H1 ⟨w1, M1, d, s, S1, RS1, r, q⟩ => by
    cases d with
    | bl b =>
      rw [rep_bl] at r
      refine ⟨b, r, ?_⟩
      cases b <;> exact OkG.ret q S1 (rep_bl.mpr rfl)
    | _ => exact q.elim
theorem l_notT {a : Expr} {pos : Pos} {f : Sl → Hh → Out D} (ha : PT X a (tT c W f)) : PT X (.UnaryOp .Not a pos) (tT c W fun σ M => (f σ M).bind notD) :=
  (pt_not ha).weak fun τ H Q ⟨w, M, σ, S, RS, h⟩ => by
    have e : ((f σ M).bind notD).bind toB = ((f σ M).bind toB).bind fun b M => .ok (!b) M := by
      cases f σ M with
      | ok d M => cases d with
        | bl b => cases b <;> rfl
        | _ => rfl
      | exn _ _ _ => rfl
      | bad => rfl
    rw [e] at h
    exact (nxtT S RS h).imp fun b H1 ⟨w1, M1, s, S1, RS1, q⟩ => OkG.ret q S1 rfl
theorem cmp_of {f g : Sl → Hh → Out D} {k : D → D → Hh → Option Bool} {τ : L2.St} {H : Hp} {Q : VK} (h : tE c W (fun σ M => (f σ M).bind fun x M1 => (g σ M1).bind fun y M2 => outB (k x y M2) M2) τ H Q) :
    tE c W f τ H fun x H1 => tE c W g τ H1 fun y H2 => rCp c k x y H2 Q := by
  obtain ⟨w, M, σ, S, RS, h⟩ := h
  refine (nxt S RS h).imp fun v H1 ⟨w1, M1, d, s, S1, RS1, r, q⟩ => (nxt S1 RS1 q).imp fun u H2 ⟨w2, M2, e, s2, S2, RS2, r2, q2⟩ => ?_
  cases hk : k d e M2 with
  | none => rw [hk] at q2; exact q2.elim
  | some b =>
    rw [hk] at q2
    exact ⟨w2, M2, d, e, b, S2, Rep.mono s2 _ _ r, r2, hk, OkG.ret q2 S2 (rep_bl.mpr rfl)⟩
theorem l_cmp {a b : Expr} {op : CmpOp} {pos : Pos} {f g : Sl → Hh → Out D} {k : D → D → Hh → Option Bool} (ho : OpR X (compareOp op) (rCp c k)) (ha : PE X a (tE c W f)) (hb : PE X b (tE c W g)) (hm : behindInMarks op b = false) :
    PE X (.Compare a [op] [b] pos) (tE c W fun σ M => (f σ M).bind fun x M1 => (g σ M1).bind fun y M2 => outB (k x y M2) M2) :=
  (pe_cmpR ho ha hb hm).weak fun τ H Q h => cmp_of h
theorem outB_toB (o : Option Bool) (M : Hh) : (outB o M).bind toB = match o with | some b => .ok b M | none => .bad := by cases o <;> rfl
theorem l_cmpT {a b : Expr} {op : CmpOp} {pos : Pos} {f g : Sl → Hh → Out D} {k : D → D → Hh → Option Bool} (ho : OpR X (compareOp op) (rCp c k)) (ha : PE X a (tE c W f)) (hb : PE X b (tE c W g)) (hm : behindInMarks op b = false) :
    PT X (.Compare a [op] [b] pos) (tT c W fun σ M => (f σ M).bind fun x M1 => (g σ M1).bind fun y M2 => outB (k x y M2) M2) :=
  (pt_cmpR ho ha hb hm).weak fun τ H Q ⟨w, M, σ, S, RS, h⟩ => by
    rw [bind_assoc] at h
    simp only [bind_assoc] at h
    refine (nxt S RS h).imp fun v H1 ⟨w1, M1, d, s, S1, RS1, r, q⟩ => (nxt S1 RS1 q).imp fun u H2 ⟨w2, M2, e, s2, S2, RS2, r2, q2⟩ => ?_
    cases hk : k d e M2 with
    | none => rw [hk] at q2; exact q2.elim
    | some b =>
      rw [hk] at q2
      exact ⟨w2, M2, d, e, b, S2, Rep.mono s2 _ _ r, r2, hk, b, rfl, OkG.ret q2 S2 rfl⟩
theorem chain_of {R : Wd → Hp → D → V → Prop} {f g p : Sl → Hh → Out D} {k k' : D → D → Hh → Option Bool} {τ : L2.St} {H : Hp} {Q : VK}
    (h : tE c W (fun σ M => (f σ M).bind fun x M1 => (g σ M1).bind fun y M2 => (outB (k x y M2) M2).bind fun b _ => ifB b .bad ((p σ M2).bind fun z M3 => outB (k' y z M3) M3) (.ok (.bl false) M2)) τ H Q) :
    tChain (rCp c k) (rCp c k') (tE c W f) (tE c W g) (tE c W p) τ H Q := by
  obtain ⟨w, M, σ, S, RS, h⟩ := h
  refine (nxt S RS h).imp fun v H1 ⟨w1, M1, d, s, S1, RS1, r, q⟩ => (nxt S1 RS1 q).imp fun u H2 ⟨w2, M2, e, s2, S2, RS2, r2, q2⟩ => ?_
  cases hk : k d e M2 with
  | none => rw [hk] at q2; exact q2.elim
  | some b =>
    rw [hk] at q2
    refine ⟨w2, M2, d, e, b, S2, Rep.mono s2 _ _ r, r2, hk, b, rfl, ?_⟩
    cases b with
    | false => exact OkG.ret q2 S2 (rep_bl.mpr rfl)
    | true =>
      refine (nxt S2 RS2 q2).imp fun v3 H3 ⟨w3, M3, d3, s3, S3, RS3, r3, q3⟩ => ?_
      cases hk2 : k' e d3 M3 with
      | none => rw [hk2] at q3; exact q3.elim
      | some b2 =>
        rw [hk2] at q3
        exact ⟨w3, M3, e, d3, b2, S3, Rep.mono s3 _ _ r2, r3, hk2, OkG.ret q3 S3 (rep_bl.mpr rfl)⟩
theorem l_chain {a b e : Expr} {op op' : CmpOp} {pos : Pos} {f g p : Sl → Hh → Out D} {k k' : D → D → Hh → Option Bool} (ho : OpR X (compareOp op) (rCp c k)) (ho' : OpR X (compareOp op') (rCp c k')) (ha : PE X a (tE c W f)) (hb : PE X b (tE c W g)) (he : PE X e (tE c W p)) (hm : lastMarks [op, op'] [b, e] = false) :
    PE X (.Compare a [op, op'] [b, e] pos) (tE c W fun σ M => (f σ M).bind fun x M1 => (g σ M1).bind fun y M2 => (outB (k x y M2) M2).bind fun b _ => ifB b .bad ((p σ M2).bind fun z M3 => outB (k' y z M3) M3) (.ok (.bl false) M2)) :=
  (pe_chain ho ho' ha hb he hm).weak fun τ H Q h => chain_of (R := Rep c) h
theorem toB_tE {f : Sl → Hh → Out D} {τ : L2.St} {H : Hp} {Q : Bool → Hp → Prop} (h : tT c W f τ H Q) : tE c W f τ H fun x H' => ∃ k, x = .bl k ∧ Q k H' := by
  obtain ⟨w, M, σ, S, RS, h⟩ := h
  exact (nxt S RS h).imp fun v H1 ⟨w1, M1, d, s, S1, RS1, r, q⟩ => by
    cases d with
    | bl b =>
      rw [rep_bl] at r
      exact ⟨b, r, OkG.ret q S1 rfl⟩
    | _ => exact q.elim
theorem l_chainT {a b e : Expr} {op op' : CmpOp} {pos : Pos} {f g p : Sl → Hh → Out D} {k k' : D → D → Hh → Option Bool} (ho : OpR X (compareOp op) (rCp c k)) (ho' : OpR X (compareOp op') (rCp c k')) (ha : PE X a (tE c W f)) (hb : PE X b (tE c W g)) (he : PE X e (tE c W p)) (hm : lastMarks [op, op'] [b, e] = false) :
    PT X (.Compare a [op, op'] [b, e] pos) (tT c W fun σ M => (f σ M).bind fun x M1 => (g σ M1).bind fun y M2 => (outB (k x y M2) M2).bind fun b _ => ifB b .bad ((p σ M2).bind fun z M3 => outB (k' y z M3) M3) (.ok (.bl false) M2)) :=
  (pt_chain ho ho' ha hb he hm).weak fun τ H Q h => chain_of (R := Rep c) (toB_tE h)
theorem l_and {a b : Expr} {rest : List Expr} {pos : Pos} {f g : Sl → Hh → Out D} (ha : PE X a (tE c W f)) (hb : PE X (.BoolOp .And (b :: rest) pos) (tE c W g)) :
    PE X (.BoolOp .And (a :: b :: rest) pos) (tE c W fun σ M => (f σ M).bind fun x M1 => ifB x .bad (g σ M1) (.ok (.bl false) M1)) :=
  (pe_and ha hb).weak fun τ H Q ⟨w, M, σ, S, RS, h⟩ => (nxt S RS h).imp fun v H1 ⟨w1, M1, d, s, S1, RS1, r, q⟩ => by
    cases d with
    | bl b =>
      rw [rep_bl] at r
      refine ⟨b, r, ?_⟩
      cases b with
      | true => exact ⟨w1, M1, σ, S1, RS1, q⟩
      | false => exact OkG.ret q S1 (rep_bl.mpr rfl)
    | _ => exact q.elim
theorem l_or {a b : Expr} {rest : List Expr} {pos : Pos} {f g : Sl → Hh → Out D} (ha : PE X a (tE c W f)) (hb : PE X (.BoolOp .Or (b :: rest) pos) (tE c W g)) :
    PE X (.BoolOp .Or (a :: b :: rest) pos) (tE c W fun σ M => (f σ M).bind fun x M1 => ifB x .bad (.ok (.bl true) M1) (g σ M1)) :=
  (pe_or ha hb).weak fun τ H Q ⟨w, M, σ, S, RS, h⟩ => (nxt S RS h).imp fun v H1 ⟨w1, M1, d, s, S1, RS1, r, q⟩ => by
    cases d with
    | bl b =>
      rw [rep_bl] at r
      refine ⟨b, r, ?_⟩
      cases b with
      | false => exact ⟨w1, M1, σ, S1, RS1, q⟩
      | true => exact OkG.ret q S1 (rep_bl.mpr rfl)
    | _ => exact q.elim
theorem truD_ok {w : Wd} {M : Hh} {H : Hp} {d : D} {v : V} {k : Bool} (S : Sim c w M H) (h : truD M d = some k) (r : Rep c w H d v) : TruV c.K v H k := by
  cases d with
  | non => rw [rep_non] at r; subst r; exact (Option.some.inj h).symm
  | str l =>
    obtain ⟨rfl, z, _⟩ := rep_str.mp r
    have e : k = !l.isEmpty := (Option.some.inj h).symm
    subst e
    refine ⟨by simpa [Str.length] using z, ?_⟩
    cases l <;> simp [Str.length] <;> omega
  | tup xs =>
    obtain ⟨a, vs, rfl, q, _, rr⟩ := rep_tup.mp r
    have e : k = !xs.isEmpty := (Option.some.inj h).symm
    have l := rr.len
    refine .inr (.inl ⟨vs, q.sq, ?_⟩)
    subst e
    cases xs <;> cases vs <;> simp_all
  | lst xs =>
    obtain ⟨a, vs, rfl, q, _, rr⟩ := rep_lst.mp r
    have e : k = !xs.isEmpty := (Option.some.inj h).symm
    have l := rr.len
    refine .inl ⟨vs, q.sq, ?_⟩
    subst e
    cases xs <;> cases vs <;> simp_all
  | ref i =>
    obtain ⟨a, rfl, hi⟩ := rep_ref.mp r
    simp only [truD] at h
    split at h
    · rename_i xs hM
      obtain ⟨vs, e2, _, rr⟩ := S.cell i a (.lst xs) hi hM
      have e : k = !xs.isEmpty := (Option.some.inj h).symm
      have l := rr.len
      refine .inl ⟨vs, .of e2, ?_⟩
      subst e
      cases xs <;> cases vs <;> simp_all
    · cases h
  | _ => cases h
theorem l_orv {a b : Expr} {rest : List Expr} {pos : Pos} {f g : Sl → Hh → Out D} (hK : X.K = c.K) (ha : PE X a (tE c W f)) (hb : PE X (.BoolOp .Or (b :: rest) pos) (tE c W g)) :
    PE X (.BoolOp .Or (a :: b :: rest) pos) (tE c W fun σ M => (f σ M).bind fun x M1 => orD (truD M1 x) x M1 (g σ M1)) :=
  (pe_orT ha hb).weak fun τ H Q ⟨w, M, σ, S, RS, h⟩ => (nxt S RS h).imp fun v H1 ⟨w1, M1, d, s, S1, RS1, r, q⟩ => by
    cases ht : truD M1 d with
    | none => rw [ht] at q; exact q.elim
    | some k =>
      rw [ht] at q
      refine ⟨k, by rw [hK]; exact truD_ok S1 ht r, ?_⟩
      cases k with
      | true => exact OkG.ret q S1 r
      | false => exact ⟨w1, M1, σ, S1, RS1, q⟩
theorem l_andT {a b : Expr} {rest : List Expr} {pos : Pos} {f g : Sl → Hh → Out D} (ha : PT X a (tT c W f)) (hb : PW X (.BoolOp .And (b :: rest) pos) (tT c W g)) :
    PW X (.BoolOp .And (a :: b :: rest) pos) (tT c W fun σ M => (f σ M).bind fun x M1 => ifB x .bad (g σ M1) (.ok (.bl false) M1)) := by
  have z := pw_and ha hb
  refine ⟨fun wh pins s τ H Q I q => z.run wh pins s τ H Q I ?_⟩
  obtain ⟨w, M, σ, S, RS, h⟩ := q
  dsimp only at h
  rw [bind_ifB, bind_assoc] at h
  refine (nxtT S RS h).imp fun b H1 ⟨w1, M1, s, S1, RS1, q⟩ => ?_
  cases b with
  | true => exact ⟨w1, M1, σ, S1, RS1, q⟩
  | false => exact OkG.ret (show OkG c RB w1 H1 (.ok false M1) Q _ from q) S1 rfl
theorem l_orT {a b : Expr} {rest : List Expr} {pos : Pos} {f g : Sl → Hh → Out D} (ha : PT X a (tT c W f)) (hb : PW X (.BoolOp .Or (b :: rest) pos) (tT c W g)) :
    PW X (.BoolOp .Or (a :: b :: rest) pos) (tT c W fun σ M => (f σ M).bind fun x M1 => ifB x .bad (.ok (.bl true) M1) (g σ M1)) := by
  have z := pw_or ha hb
  refine ⟨fun wh pins s τ H Q I q => z.run wh pins s τ H Q I ?_⟩
  obtain ⟨w, M, σ, S, RS, h⟩ := q
  dsimp only at h
  rw [bind_ifB, bind_assoc] at h
  refine (nxtT S RS h).imp fun b H1 ⟨w1, M1, s, S1, RS1, q⟩ => ?_
  cases b with
  | false => exact ⟨w1, M1, σ, S1, RS1, q⟩
  | true => exact OkG.ret (show OkG c RB w1 H1 (.ok true M1) Q _ from q) S1 rfl
theorem l_ite {t a b : Expr} {pos : Pos} {f g p : Sl → Hh → Out D} (ht : PT X t (tT c W f)) (ha : PE X a (tE c W g)) (hb : PE X b (tE c W p)) :
    PE X (.IfExp t a b pos) (tE c W fun σ M => (f σ M).bind fun x M1 => ifB x .bad (g σ M1) (p σ M1)) :=
  (pe_ifExp ht ha hb).weak fun τ H Q ⟨w, M, σ, S, RS, h⟩ => by
    dsimp only at h
    rw [bind_ifB] at h
    refine (nxtT S RS h).imp fun b H1 ⟨w1, M1, s, S1, RS1, q⟩ => ?_
    cases b with
    | true => exact ⟨w1, M1, σ, S1, RS1, q⟩
    | false => exact ⟨w1, M1, σ, S1, RS1, q⟩
theorem l_nil : PA X [] (tL c W fun _ M => .ok [] M) := pa_nil.weak fun τ H Q ⟨w, M, σ, S, RS, h⟩ => OkG.ret h S RepL.nil
theorem l_cons {e : Expr} {es : List Expr} {f : Sl → Hh → Out D} {g : Sl → Hh → Out (List D)} (he : PE X e (tE c W f)) (hr : PA X es (tL c W g)) (hs : notStar e = true) :
    PA X (e :: es) (tL c W fun σ M => (f σ M).bind fun x M1 => (g σ M1).bind fun xs M2 => .ok (x :: xs) M2) :=
  (pa_cons he hr (star_eq hs)).weak fun τ H Q ⟨w, M, σ, S, RS, h⟩ => (nxt S RS h).imp fun v H1 ⟨w1, M1, d, s, S1, RS1, r, q⟩ => (nxtL S1 RS1 q).imp fun vs H2 ⟨w2, M2, ds, s2, S2, RS2, r2, q2⟩ =>
    OkG.ret q2 S2 (RepL.cons (Rep.mono s2 _ _ r) r2)
def LenIs (n : Nat) (g : Sl → Hh → Out (List D)) : Prop := ∀ σ M ds M', g σ M = .ok ds M' → ds.length = n
theorem l_tup {es : List Expr} {k : Nat} {pos : Pos} {g : Sl → Hh → Out (List D)} {n : Nat} (h : PA X es (tL c W g)) (hn : LenIs n g) (hz : n ≤ 1000) : PE X (.Tuple es k pos) (tE c W fun σ M => (g σ M).bind fun ds M1 => .ok (.tup ds) M1) :=
  (pe_tup h).weak fun τ H Q ⟨w, M, σ, S, RS, h⟩ => by
    have z := fun ds M' => hn σ M ds M'
    dsimp only at h
    refine ⟨w, M, σ, S, RS, ?_⟩
    cases e : g σ M with
    | bad => rw [e] at h; exact h
    | exn x fs M' => rw [e] at h; exact h
    | ok ds M' =>
      rw [e] at h
      intro w1 H1 vs s S1 r
      have hl : ds.length ≤ sizeLine := by rw [z ds M' e, sizeLine_eq]; omega
      exact ⟨by rw [← r.len]; exact hl, mkT_ok S1 r hl (OkG.lift h s)⟩
theorem l_lst {m : Bool} {es : List Expr} {pos : Pos} {g : Sl → Hh → Out (List D)} {n : Nat} (h : PA X es (tL c W g)) (hn : LenIs n g) (hz : n ≤ 1000) : PE X (.List es pos) (tE c W fun σ M => (g σ M).bind fun ds M1 => mkL m ds M1) :=
  (pe_lst h).weak fun τ H Q ⟨w, M, σ, S, RS, h⟩ => by
    have z := fun ds M' => hn σ M ds M'
    dsimp only at h
    refine ⟨w, M, σ, S, RS, ?_⟩
    cases e : g σ M with
    | bad => rw [e] at h; exact h
    | exn x fs M' => rw [e] at h; exact h
    | ok ds M' =>
      rw [e] at h
      intro w1 H1 vs s S1 r
      have hl : ds.length ≤ sizeLine := by rw [z ds M' e, sizeLine_eq]; omega
      exact ⟨by rw [← r.len]; exact hl, mkL_ok S1 r hl (OkG.lift h s)⟩
theorem args_of {g : Sl → Hh → Out (List D)} {k : List D → Hh → Out D} {τ : L2.St} {H : Hp} {Q : VK} (h : tE c W (fun σ M => (g σ M).bind k) τ H Q) : tL c W g τ H fun vs H1 => rVn c k vs H1 Q := by
  obtain ⟨w, M, σ, S, RS, h⟩ := h
  exact (nxtL S RS h).imp fun vs H1 ⟨w1, M1, ds, s, S1, RS1, r, q⟩ => ⟨w1, M1, ds, _, S1, r, q⟩
theorem l_callB {x : Str} {id : String} {e : Expr} {es : List Expr} {p pos : Pos} {g : Sl → Hh → Out (List D)} {k : List D → Hh → Out D} (hc : CallR X (.builtin id) (rVn c k)) (hg : Gl X x) (hm : X.mg x = none) (hv : bootBuiltins x = some (.builtin id)) (hn : x ≠ "__name__") (hdb : (x == ("__debug__" : Str)) = false)
    (ha : PA X (e :: es) (tL c W g)) (hs : notStar e = true) (hss : es.all notStar = true) : PE X (.Call (.Name x p) (e :: es) [] pos) (tE c W fun σ M => (g σ M).bind k) :=
  (pe_callB hc hg hm hv ha hn hdb (star_eq hs) (star_any hss)).weak fun τ H Q h => args_of h
theorem l_callTy {x : Str} {T : String} {e : Expr} {es : List Expr} {p pos : Pos} {g : Sl → Hh → Out (List D)} {k : List D → Hh → Out D} (hc : CallR X (.type T) (rVn c k)) (hg : Gl X x) (hm : X.mg x = none) (hv : bootBuiltins x = some (.type T)) (hn : x ≠ "__name__") (hdb : (x == ("__debug__" : Str)) = false)
    (ha : PA X (e :: es) (tL c W g)) (hs : notStar e = true) (hss : es.all notStar = true) : PE X (.Call (.Name x p) (e :: es) [] pos) (tE c W fun σ M => (g σ M).bind k) :=
  (pe_callTy hc hg hm hv ha hn hdb (star_eq hs) (star_any hss)).weak fun τ H Q h => args_of h
end
end Fw
namespace Fw
open PySem PySem.Spec PyProof.Rows L2
def Src (t : Bool) (h : Heap) (it l : Addr) (k : Nat) (xs : Array Value) : Prop := if t = true then h.IsTupleIter it l k ∧ h.IsTuple l xs else h.IsListIter it l k ∧ h.IsList l xs
theorem Src.mv {t : Bool} {h h' : Heap} {it l : Addr} {k : Nat} {xs : Array Value} (r : Src t h it l k xs) (e1 : ∀ o, h.get? it = some o → h'.get? it = some o) (e2 : ∀ o, h.get? l = some o → h'.get? l = some o) : Src t h' it l k xs := by
  cases t with
  | true =>
    obtain ⟨⟨u, v, p⟩, ⟨u2, v2, p2⟩⟩ := (show h.IsTupleIter it l k ∧ h.IsTuple l xs from r)
    exact (show h'.IsTupleIter it l k ∧ h'.IsTuple l xs from ⟨⟨u, e1 _ v, p⟩, ⟨u2, e2 _ v2, p2⟩⟩)
  | false =>
    obtain ⟨⟨u, v, p⟩, ⟨u2, v2, p2⟩⟩ := (show h.IsListIter it l k ∧ h.IsList l xs from r)
    exact (show h'.IsListIter it l k ∧ h'.IsList l xs from ⟨⟨u, e1 _ v, p⟩, ⟨u2, e2 _ v2, p2⟩⟩)
theorem Src.lt {t : Bool} {h : Heap} {it l : Addr} {k : Nat} {xs : Array Value} (r : Src t h it l k xs) : ∃ o, h.get? it = some o ∧ (∀ n, o.data ≠ .seq xs n ∨ True) ∧ o.data = .fields #[.ref l, .int k 0] := by
  cases t with
  | true =>
    obtain ⟨⟨u, v, _, p⟩, _⟩ := (show h.IsTupleIter it l k ∧ h.IsTuple l xs from r)
    exact ⟨u, v, fun _ => .inr trivial, p⟩
  | false =>
    obtain ⟨⟨u, v, _, p⟩, _⟩ := (show h.IsListIter it l k ∧ h.IsList l xs from r)
    exact ⟨u, v, fun _ => .inr trivial, p⟩
section
variable {pg : Program} {wd : World} {B : Around} {Er : Value → Shared → Prop} {sh : Shared}
theorem src_item {t : Bool} {it l : Addr} {k : Nat} {xs : Array Value} {x : Value} {R : Value → Shared → Prop} (r : Src t sh.heap it l k xs) (ne : l ≠ it) (hx : xs[k]? = some x)
    (go : ∀ h', Src t h' it l (k + 1) xs → Heap.SameBut it sh.heap h' → R x { sh with heap := h' }) : wpAny (model pg wd) B (Builtin.SmallTypes.nextOf (.ref it)) R Er sh := by
  cases t with
  | true =>
    obtain ⟨q, p⟩ := (show sh.heap.IsTupleIter it l k ∧ sh.heap.IsTuple l xs from r)
    exact RZ.nextOf_tuple_item q p hx fun h' q' sb => go h' (show h'.IsTupleIter it l (k + 1) ∧ h'.IsTuple l xs from ⟨q', p.extBut sb.extBut ne⟩) sb
  | false =>
    obtain ⟨q, p⟩ := (show sh.heap.IsListIter it l k ∧ sh.heap.IsList l xs from r)
    exact wpAny_nextOf_list_item q p hx fun h' q' sb => go h' (show h'.IsListIter it l (k + 1) ∧ h'.IsList l xs from ⟨q', p.extBut sb.extBut ne⟩) sb
theorem src_end {t : Bool} {it l : Addr} {k : Nat} {xs : Array Value} {R : Value → Shared → Prop} (calm : B.handled = none) (r : Src t sh.heap it l k xs) (hx : xs[k]? = none)
    (no : ∀ h' e, Heap.ExtBut it sh.heap h' → (∃ o, h'.get? e = some o ∧ o.cls = .type "StopIteration") → Er (.ref e) { sh with heap := h' }) : wpAny (model pg wd) B (Builtin.SmallTypes.nextOf (.ref it)) R Er sh := by
  cases t with
  | true =>
    obtain ⟨q, p⟩ := (show sh.heap.IsTupleIter it l k ∧ sh.heap.IsTuple l xs from r)
    exact RZ.nextOf_tuple_end calm q p hx no
  | false =>
    obtain ⟨q, p⟩ := (show sh.heap.IsListIter it l k ∧ sh.heap.IsList l xs from r)
    exact wpAny_nextOf_list_end calm q p hx no
theorem zipS_next {t1 t2 : Bool} {z ti to i1 i2 l1 l2 : Addr} {k1 k2 : Nat} {xs ys : Array Value} {a b : Value} {R : Value → Shared → Prop} (calm : B.handled = none) (ap : ZipApart z ti to i1 i2 l1 l2)
    (zp : IsZip sh.heap z ti to .none) (pI : IsPair sh.heap ti (.ref i1) (.ref i2)) (pO : IsPair sh.heap to a b) (r1 : Src t1 sh.heap i1 l1 k1 xs) (r2 : Src t2 sh.heap i2 l2 k2 ys)
    (yes : ∀ x y, xs[k1]? = some x → ys[k2]? = some y → ∀ h', IsZip h' z ti to (rawInt sh.heap.objs.size) → IsPair h' to x y → Src t1 h' i1 l1 (k1 + 1) xs → Src t2 h' i2 l2 (k2 + 1) ys → IsPair h' sh.heap.objs.size x y → h'.objs.size = sh.heap.objs.size + 1 → (∀ c o, c ≠ z → c ≠ to → c ≠ i1 → c ≠ i2 → sh.heap.get? c = some o → h'.get? c = some o) → R (.ref sh.heap.objs.size) { sh with heap := h' })
    (no : (xs[k1]? = none ∨ ys[k2]? = none) → ∀ h' e, (∀ c o, c ≠ z → c ≠ to → c ≠ i1 → c ≠ i2 → sh.heap.get? c = some o → h'.get? c = some o) → (∃ o, h'.get? e = some o ∧ o.cls = .type "StopIteration") → Er (.ref e) { sh with heap := h' }) :
    wpAny (model pg wd) B (Builtin.«zip.__next__» ⟨[.ref z], []⟩) (fun fin s' => ∃ v, fin = .done (.ret v) ∧ R v s') Er sh := by
  show wpAny _ _ (field (.ref z) 2 >>= _) _ _ _; refine wpAny_bind (wpAny_field zp rfl (x := .bool false) rfl ?_)
  show wpAny _ _ (field (.ref z) 3 >>= _) _ _ _; refine wpAny_bind (wpAny_field zp rfl (x := .ref ti) rfl ?_)
  refine wpAny_bind (wpAny_seqItems pI rfl ?_); show wpAny _ _ (Builtin.SmallTypes.ownedTupleIsFree (.ref z) >>= _) _ _ _
  refine wpAny_bind ?_; unfold Builtin.SmallTypes.ownedTupleIsFree; refine wpAny_bind (wpAny_field zp rfl (x := .none) rfl (wpAny_pure ?_))
  simp only [if_true]; refine wpAny_bind (wpAny_rule ?_); refine wpAny_bind (wpAny_field zp rfl (x := .ref to) rfl ?_)
  refine wpAny_bind (wpAny_setField_rec zp (by simp) fun g1 zg1 b1 => ?_); replace zg1 : IsZip g1 z ti to .ellipsis := zg1
  refine wpAny_bind ?_; simp only [List.zipIdx_cons, List.zipIdx_nil, List.forIn_cons, List.forIn_nil]
  have x1 : Heap.ExtBut z sh.heap g1 := b1.extBut
  have r1' : Src t1 g1 i1 l1 k1 xs := r1.mv (fun o => x1 _ o ap.i1z) (fun o => x1 _ o ap.l1z)
  refine wpAny_bind (wpAny_bind (wpAny_onRaise ?_)); show wpAny _ _ (Builtin.SmallTypes.nextOf (.ref i1) >>= _) _ _ _
  cases hx : xs[k1]? with
  | none =>
    refine wpAny_bind (src_end calm r1' hx fun g2 e b2 st => ?_)
    obtain ⟨oe, he, ce⟩ := st
    have zg2 : IsZip g2 z ti to .ellipsis := b2 _ _ ap.i1z.symm zg1
    have ez : e ≠ z := fun q => by subst q; rw [zg2] at he; cases he; simp at ce
    exact wpAny_setField_rec zg2 (by simp) fun g3 _ b3 => no (.inl hx) g3 e (fun c o n1 _ n3 _ q => b3.extBut _ _ n1 (b2 _ _ n3 (x1 _ _ n1 q))) ⟨oe, b3.extBut _ _ ez he, ce⟩
  | some x =>
    refine wpAny_bind (src_item r1' ap.l1i1 hx fun g2 q1 b2 => wpAny_pure ?_)
    have x2 : Heap.ExtBut i1 g1 g2 := b2.extBut
    have pO2 : IsPair g2 to a b := x2 _ _ ap.TOi1 (x1 _ _ ap.TOz pO)
    refine wpAny_bind (wpAny_seqItems pO2 rfl ?_); refine wpAny_bind (wpAny_updateSeq_pair pO2 fun g3 pO3 b3 => ?_)
    replace pO3 : IsPair g3 to x b := pO3
    have x3 : Heap.ExtBut to g2 g3 := b3.extBut
    have up3 : ∀ c o, c ≠ z → c ≠ i1 → c ≠ to → sh.heap.get? c = some o → g3.get? c = some o := fun c o n1 n2 n3 q => x3 _ _ n3 (x2 _ _ n2 (x1 _ _ n1 q))
    have r2' : Src t2 g3 i2 l2 k2 ys := r2.mv (fun o => up3 _ o ap.i2z ap.i12.symm ap.TOi2.symm) (fun o => up3 _ o ap.l2z ap.l2i1 ap.l2TO)
    have zg3 : IsZip g3 z ti to .ellipsis := x3 _ _ ap.TOz.symm (x2 _ _ ap.i1z.symm zg1)
    refine wpAny_bind (wpAny_letGo (wpAny_pure ?_)); refine wpAny_bind (wpAny_bind (wpAny_onRaise ?_)); show wpAny _ _ (Builtin.SmallTypes.nextOf (.ref i2) >>= _) _ _ _
    cases hy : ys[k2]? with
    | none =>
      refine wpAny_bind (src_end calm r2' hy fun g4 e b4 st => ?_)
      obtain ⟨oe, he, ce⟩ := st
      have zg4 : IsZip g4 z ti to .ellipsis := b4 _ _ ap.i2z.symm zg3
      have ez : e ≠ z := fun q => by subst q; rw [zg4] at he; cases he; simp at ce
      exact wpAny_setField_rec zg4 (by simp) fun g5 _ b5 => no (.inr hy) g5 e (fun c o n1 n2 n3 n4 q => b5.extBut _ _ n1 (b4 _ _ n4 (up3 _ _ n1 n3 n2 q))) ⟨oe, b5.extBut _ _ ez he, ce⟩
    | some y =>
      refine wpAny_bind (src_item r2' ap.l2i2 hy fun g4 q2 b4 => wpAny_pure ?_)
      have x4 : Heap.ExtBut i2 g3 g4 := b4.extBut
      have pO4 : IsPair g4 to x b := x4 _ _ ap.TOi2 pO3
      refine wpAny_bind (wpAny_seqItems pO4 rfl ?_); refine wpAny_bind (wpAny_updateSeq_pair pO4 fun g5 pO5 b5 => ?_)
      replace pO5 : IsPair g5 to x y := pO5
      have x5 : Heap.ExtBut to g4 g5 := b5.extBut
      refine wpAny_bind (wpAny_letGo (wpAny_pure (wpAny_pure ?_))); refine wpAny_bind (wpAny_seqItems pO5 rfl ?_); refine wpAny_bind (wpAny_newTuple ?_)
      have size5 : g5.objs.size = sh.heap.objs.size := by rw [b5.1, b4.1, b3.1, b2.1, b1.1]
      have zg5 : IsZip g5 z ti to .ellipsis := x5 _ _ ap.TOz.symm (x4 _ _ ap.i2z.symm zg3)
      have up5 : ∀ c o, c ≠ z → c ≠ to → c ≠ i1 → c ≠ i2 → sh.heap.get? c = some o → g5.get? c = some o := fun c o n1 n2 n3 n4 q => x5 _ _ n2 (x4 _ _ n4 (up3 _ _ n1 n3 n2 q))
      have s1 : Src t1 g5 i1 l1 (k1 + 1) xs := q1.mv (fun o q => x5 _ _ ap.TOi1.symm (x4 _ _ ap.i12 (x3 _ _ ap.TOi1.symm q))) (fun o q => x5 _ _ ap.l1TO (x4 _ _ ap.l1i2 (x3 _ _ ap.l1TO q)))
      have s2 : Src t2 g5 i2 l2 (k2 + 1) ys := q2.mv (fun o q => x5 _ _ ap.TOi2.symm q) (fun o q => x5 _ _ ap.l2TO q)
      have zl : z < g5.objs.size := Heap.lt_size zg5
      show wpAny _ _ (Builtin.SmallTypes.ownedTupleHandOut (.ref z) (.ref g5.objs.size) >>= _) _ _ _; refine wpAny_bind ?_; unfold Builtin.SmallTypes.ownedTupleHandOut
      have zg6 : IsZip (g5.push { cls := .type "tuple", data := .seq #[x, y] }) z ti to .ellipsis := Heap.get?_push_of_some _ zg5
      refine wpAny_bind (wpAny_setField_rec zg6 (by simp) fun g7 zg7 b7 => ?_); replace zg7 : IsZip g7 z ti to (rawInt g5.objs.size) := zg7
      refine wpAny_setField_rec zg7 (by simp) fun g8 zg8 b8 => ?_; replace zg8 : IsZip g8 z ti to (rawInt g5.objs.size) := zg8
      have up8 : ∀ c o, c ≠ z → g5.get? c = some o → g8.get? c = some o := fun c o n1 q => b8.extBut _ _ n1 (b7.extBut _ _ n1 (Heap.get?_push_of_some _ q))
      have new8 : IsPair g8 g5.objs.size x y := b8.extBut _ _ (Nat.ne_of_gt zl) (b7.extBut _ _ (Nat.ne_of_gt zl) (Heap.get?_push_size _ rfl))
      have size8 : g8.objs.size = g5.objs.size + 1 := by rw [b8.1, b7.1, Heap.size_push]
      rw [size5] at zg8 new8 size8; refine wpAny_pure ⟨_, rfl, ?_⟩; show R (.ref g5.objs.size) _; rw [size5]
      exact yes x y hx hy g8 zg8 (up8 _ _ ap.TOz pO5) (s1.mv (fun o => up8 _ o ap.i1z) (fun o => up8 _ o ap.l1z)) (s2.mv (fun o => up8 _ o ap.i2z) (fun o => up8 _ o ap.l2z)) new8 size8 fun c o n1 n2 n3 n4 q => up8 c o n1 (up5 c o n1 n2 n3 n4 q)
theorem pyNext_zipS {t1 t2 : Bool} {z ti to i1 i2 l1 l2 : Addr} {k1 k2 : Nat} {xs ys : Array Value} {a b : Value} {R : Option Value → Shared → Prop} (calm : B.handled = none) (ap : ZipApart z ti to i1 i2 l1 l2)
    (zp : IsZip sh.heap z ti to .none) (pI : IsPair sh.heap ti (.ref i1) (.ref i2)) (pO : IsPair sh.heap to a b) (r1 : Src t1 sh.heap i1 l1 k1 xs) (r2 : Src t2 sh.heap i2 l2 k2 ys)
    (yes : ∀ x y, xs[k1]? = some x → ys[k2]? = some y → ∀ h', IsZip h' z ti to (rawInt sh.heap.objs.size) → IsPair h' to x y → Src t1 h' i1 l1 (k1 + 1) xs → Src t2 h' i2 l2 (k2 + 1) ys → IsPair h' sh.heap.objs.size x y → h'.objs.size = sh.heap.objs.size + 1 → (∀ c o, c ≠ z → c ≠ to → c ≠ i1 → c ≠ i2 → sh.heap.get? c = some o → h'.get? c = some o) → R (some (.ref sh.heap.objs.size)) { sh with heap := h' })
    (no : (xs[k1]? = none ∨ ys[k2]? = none) → ∀ h', (∀ c o, c ≠ z → c ≠ to → c ≠ i1 → c ≠ i2 → sh.heap.get? c = some o → h'.get? c = some o) → R none { sh with heap := h' }) :
    wpAny (model pg wd) B (pyNext (.ref z)) R Er sh := by
  have ty : sh.TypeIs (.ref z) "zip" := ⟨_, zp, rfl⟩
  unfold pyNext
  refine wpAny_bind (wpAny_attempt (wpAny_callSpecial?_slot (name := Str.ofString "__next__") ty F.slot_zip_next (wpAny_call_entry F.slot_zip_next ty F.entry_zip_next (zipS_next calm ap zp pI pO r1 r2 (fun x y e1 e2 h' a1 a2 a3 a4 a5 a6 a7 => wpAny_pure (yes x y e1 e2 h' a1 a2 a3 a4 a5 a6 a7)) fun e0 h' e up st => ?_) (F.args_zip_next_1 _))))
  obtain ⟨o, ho, hc⟩ := st
  exact wpAny_bind (wpAny_isInstance (T := "StopIteration") (b := true) ⟨o, ho, hc⟩ isSubtype_stop (wpAny_pure (no e0 _ up)))
end
abbrev tl1 (h : Heap) (p : Addr) : Heap := h.push { cls := .type "tuple_iterator", data := .fields #[.ref p, .int 0 0] }
abbrev tl2 (h : Heap) (p q : Addr) : Heap := (tl1 h p).push { cls := .type "list_iterator", data := .fields #[.ref q, .int 0 0] }
abbrev tl3 (h : Heap) (p q : Addr) : Heap := (tl2 h p q).push { cls := .type "tuple", data := .seq #[.ref h.objs.size, .ref (tl1 h p).objs.size] }
abbrev tl4 (h : Heap) (p q : Addr) : Heap := (tl3 h p q).push { cls := .type "tuple", data := .seq #[.none, .none] }
abbrev tl5 (h : Heap) (p q : Addr) : Heap := (tl4 h p q).push { cls := .type "zip", data := .fields #[.none, .bool false, .bool false, .ref (tl2 h p q).objs.size, .ref (tl3 h p q).objs.size] }
theorem meets_tl (p q : Addr) (xs ys : Array Value) : Meets (Builtin.«zip.__new__» ⟨[.type "zip", .ref p, .ref q], []⟩) (fun _ R s => s.heap.IsTuple p xs ∧ s.heap.IsList q ys ∧ R (.ok (.ret (.ref (tl4 s.heap p q).objs.size))) { s with heap := tl5 s.heap p q }) :=
  .of_wp fun pg wd B R sh u => by
    obtain ⟨hp, g, d, tk, os⟩ := sh
    obtain ⟨u1, u2, u⟩ := u
    have isz := sub_zip
    have v1 : Heap.IsTuple (Shared.heap ⟨hp, g, d, tk, os⟩) p xs := u1
    have v2 : Heap.IsList (Shared.heap ⟨hp.push { cls := .type "tuple_iterator", data := .fields #[.ref p, .int 0 0] }, g, d, tk, os⟩) q ys := Heap.IsList.push u2 _
    wp_walk using wpAny_pyIter_tuple v1, wpAny_pyIter_list v2
    exact ⟨_, rfl, u⟩
theorem call_tl {pg : Program} {wd : World} {B : Around} {Er : Value → Shared → Prop} {sh : Shared} {p q : Addr} {xs ys : Array Value} {R : Value → Shared → Prop} (hp : sh.heap.IsTuple p xs) (hq : sh.heap.IsList q ys)
    (go : ∀ h', IsZip h' (sh.heap.objs.size + 4) (sh.heap.objs.size + 2) (sh.heap.objs.size + 3) .none → IsPair h' (sh.heap.objs.size + 2) (.ref sh.heap.objs.size) (.ref (sh.heap.objs.size + 1)) → IsPair h' (sh.heap.objs.size + 3) .none .none → Src true h' sh.heap.objs.size p 0 xs → Src false h' (sh.heap.objs.size + 1) q 0 ys → (∀ c o, sh.heap.get? c = some o → h'.get? c = some o) → R (.ref (sh.heap.objs.size + 4)) { sh with heap := h' }) :
    wpAny (model pg wd) B (call (.type "zip") [.ref p, .ref q]) R Er sh := by
  refine callType_new F.called_zip (by decide) (F.typeCall_zip_2 _ _) (F.newCall_zip_2 _ _) (fun ob => F.args_object_init_3 ob _ _) F.entry_zip_new (meets_tl p q xs ys) ⟨hp, hq, ?_⟩
  have n1 : (tl1 sh.heap p).objs.size = sh.heap.objs.size + 1 := Heap.size_push ..
  have n2 : (tl2 sh.heap p q).objs.size = sh.heap.objs.size + 2 := by rw [Heap.size_push, n1]
  have n3 : (tl3 sh.heap p q).objs.size = sh.heap.objs.size + 3 := by rw [Heap.size_push, n2]
  have n4 : (tl4 sh.heap p q).objs.size = sh.heap.objs.size + 4 := by rw [Heap.size_push, n3]
  have up : ∀ c o, sh.heap.get? c = some o → (tl5 sh.heap p q).get? c = some o := fun c o e => Heap.get?_push_of_some _ (Heap.get?_push_of_some _ (Heap.get?_push_of_some _ (Heap.get?_push_of_some _ (Heap.get?_push_of_some _ e))))
  have k5 : (tl5 sh.heap p q).get? (tl4 sh.heap p q).objs.size = some _ := Heap.get?_push_size _ rfl
  have k4 : (tl5 sh.heap p q).get? (tl3 sh.heap p q).objs.size = some _ := Heap.get?_push_of_some _ (Heap.get?_push_size _ rfl)
  have k3 : (tl5 sh.heap p q).get? (tl2 sh.heap p q).objs.size = some _ := Heap.get?_push_of_some _ (Heap.get?_push_of_some _ (Heap.get?_push_size _ rfl))
  have k2 : (tl5 sh.heap p q).get? (tl1 sh.heap p).objs.size = some _ := Heap.get?_push_of_some _ (Heap.get?_push_of_some _ (Heap.get?_push_of_some _ (Heap.get?_push_size _ rfl)))
  have k1 : (tl5 sh.heap p q).get? sh.heap.objs.size = some _ := Heap.get?_push_of_some _ (Heap.get?_push_of_some _ (Heap.get?_push_of_some _ (Heap.get?_push_of_some _ (Heap.get?_push_size _ rfl))))
  rw [n2, n3, n4] at k5
  rw [n1, n2] at k3
  rw [n3] at k4
  rw [n1] at k2
  show _ ∧ _
  rw [n4]
  obtain ⟨o1, w1, rest1⟩ := hp
  obtain ⟨o2, w2, rest2⟩ := hq
  refine ⟨⟨_, k5, rfl⟩, go _ k5 k3 k4 ?_ ?_ up⟩
  · exact (show Heap.IsTupleIter _ _ _ _ ∧ Heap.IsTuple _ _ _ from ⟨⟨_, k1, rfl, rfl⟩, ⟨o1, up _ _ w1, rest1⟩⟩)
  · exact (show Heap.IsListIter _ _ _ _ ∧ Heap.IsList _ _ _ from ⟨⟨_, k2, rfl, rfl⟩, ⟨o2, up _ _ w2, rest2⟩⟩)
def ItzM (K : PySem.W.Frag) (a b : Addr) : It :=
  ⟨fun i H => ∃ (us vs : List V) (u v : V), SqT K H a us ∧ SqL K H b vs ∧ us[i]? = some u ∧ vs[i]? = some v,
    fun i H d H' => ∃ T u v, d = .ref T ∧ H T = none ∧ H' = upd H T (.tup [u, v]) ∧ (∀ us, SqT K H a us → us[i]? = some u) ∧ ∀ vs, SqL K H b vs → vs[i]? = some v,
    fun i H => ∃ us vs : List V, SqT K H a us ∧ SqL K H b vs ∧ (us.length ≤ i ∨ vs.length ≤ i)⟩
theorem turn_tl {P : Program} {w : World} {K : PySem.W.Frag} {elts : List Expr} {kk : Nat} {tpos : Pos} {a b z ti to i1 i2 : Addr} (ap : ZipApart z ti to i1 i2 a b) :
    Turn P w K (.Tuple elts kk tpos) (ItzM K a b) [z, ti, to, i1, i2] z (fun i h => IsZip h z ti to .none ∧ IsPair h ti (.ref i1) (.ref i2) ∧ (∃ x y, IsPair h to x y) ∧ h.IsTupleIter i1 a i ∧ h.IsListIter i2 b i) where
  mem := by simp
  obj := fun i h st c hc => by
    obtain ⟨zp, pI, ⟨x, y, pO⟩, ⟨o1, e1, _, d1⟩, ⟨o2, e2, _, d2⟩⟩ := st
    rcases (show c = z ∨ c = ti ∨ c = to ∨ c = i1 ∨ c = i2 by simpa using hc) with q | q | q | q | q
    · exact q ▸ ⟨_, zp, fun v q => nomatch q⟩
    · exact q ▸ ⟨_, pI, fun v q => nomatch q⟩
    · exact q ▸ ⟨_, pO, fun v q => nomatch q⟩
    · exact q ▸ ⟨o1, e1, fun v q => by rw [d1] at q; cases q⟩
    · exact q ▸ ⟨o2, e2, fun v q => by rw [d2] at q; cases q⟩
  keep := fun i h h' st kp => by
    obtain ⟨zp, pI, ⟨x, y, pO⟩, u1, u2⟩ := st
    exact ⟨kp z (by simp) _ zp, kp ti (by simp) _ pI, ⟨x, y, kp to (by simp) _ pO⟩, u1.at fun o q => kp i1 (by simp) o q, u2.at fun o q => kp i2 (by simp) o q⟩
  item := by
    intro X hP hw hK hc i pins s σ H E I hf st hg
    subst hP hw hK
    obtain ⟨zp, pI, ⟨x0, y0, pO⟩, u1, u2⟩ := st
    obtain ⟨us, vs, u, v, qu, qv, hu, hv⟩ := hg
    obtain ⟨ts, rv, p, _⟩ := I.tuple qu
    obtain ⟨ls, rv2, p2, _⟩ := I.list qv
    obtain ⟨m, hm, rm⟩ := rv.get hu
    obtain ⟨n, hn, rn⟩ := rv2.get hv
    have zl : z < s.heap.objs.size := Heap.lt_size zp
    have r1 : Src true s.heap i1 a i ts.toArray := (show s.heap.IsTupleIter i1 a i ∧ s.heap.IsTuple a ts.toArray from ⟨u1, p⟩)
    have r2 : Src false s.heap i2 b i ls.toArray := (show s.heap.IsListIter i2 b i ∧ s.heap.IsList b ls.toArray from ⟨u2, p2.isList⟩)
    have am : ts.toArray[i]? = some m := by simpa using hm
    have an : ls.toArray[i]? = some n := by simpa using hn
    refine pyNext_zipS (I.ok.hd hc) ap zp pI pO r1 r2 (fun x y ex ey h' z' to' s1 s2 new sz kp => ?_) fun e => ?_
    · have ex : x = m := by rw [am] at ex; exact (Option.some.inj ex).symm
      have ey : y = n := by rw [an] at ey; exact (Option.some.inj ey).symm
      subst ex ey
      refine ⟨_, rfl, wpAny_letOwnedTupleGo_zip (s := { s with heap := h' }) z' fun h2 z2 sb => ?_⟩
      have new2 : h2.get? s.heap.objs.size = some { cls := .type "tuple", data := .seq #[x, y] } := (sb.2 _ (Nat.ne_of_gt zl)).trans new
      have ok : ObjOk X.prog X.w (upd H s.heap.objs.size (.tup [u, v])) h2 s.heap.objs.size (.tup [u, v]) := ⟨by show 2 ≤ sizeLine; decide, [x, y], .cons rm (.cons rn .nil), ⟨_, new2, rfl, _, rfl⟩⟩
      have I1 : Inv X pins σ (upd H s.heap.objs.size (.tup [u, v])) { s with heap := h2 } := I.turnedNew (t' := s.toks) (ch := [z, ti, to, i1, i2]) (fun c o nb q => (sb.2 c (fun e => nb (by simp [e]))).trans (kp c o (fun e => nb (by simp [e])) (fun e => nb (by simp [e])) (fun e => nb (by simp [e])) (fun e => nb (by simp [e])) q)) hf (Nat.le_refl _) ok
      obtain ⟨w1, _⟩ := (show h'.IsTupleIter i1 a (i + 1) ∧ h'.IsTuple a ts.toArray from s1)
      obtain ⟨w2, _⟩ := (show h'.IsListIter i2 b (i + 1) ∧ h'.IsList b ls.toArray from s2)
      refine ⟨.ref s.heap.objs.size, _, I1, rfl, ⟨_, u, v, rfl, I.hok.fresh (Nat.le_refl _), rfl, fun l hl => by rw [I.tuple_inj hl qu]; exact hu, fun l hl => by rw [I.list_inj hl qv]; exact hv⟩, ⟨z2, (sb.2 _ ap.TIz).trans (kp _ _ ap.TIz ap.TITO ap.TIi1 ap.TIi2 pI), ⟨x, y, (sb.2 _ ap.TOz).trans to'⟩, w1.at fun o q => (sb.2 _ ap.i1z).trans q, w2.at fun o q => (sb.2 _ ap.i2z).trans q⟩, fun c hcm => ?_⟩
      have lt : c < s.heap.objs.size := by
        rcases (show c = z ∨ c = ti ∨ c = to ∨ c = i1 ∨ c = i2 by simpa using hcm) with q | q | q | q | q
        · exact q ▸ zl
        · exact q ▸ Heap.lt_size pI
        · exact q ▸ Heap.lt_size pO
        · obtain ⟨_, e1, _⟩ := u1; exact q ▸ Heap.lt_size e1
        · obtain ⟨_, e2, _⟩ := u2; exact q ▸ Heap.lt_size e2
      rw [upd_ne (Nat.ne_of_lt lt)]
      exact (hf c hcm).1
    · rcases e with e | e
      · rw [am] at e; cases e
      · rw [an] at e; cases e
  done := by
    intro X hP hw hK hc i pins s σ H E I hf st hg
    subst hP hw hK
    obtain ⟨zp, pI, ⟨x0, y0, pO⟩, u1, u2⟩ := st
    obtain ⟨us, vs, qu, qv, hend⟩ := hg
    obtain ⟨ts, rv, p, _⟩ := I.tuple qu
    obtain ⟨ls, rv2, p2, _⟩ := I.list qv
    have le1 := rv.length
    have le2 := rv2.length
    have r1 : Src true s.heap i1 a i ts.toArray := (show s.heap.IsTupleIter i1 a i ∧ s.heap.IsTuple a ts.toArray from ⟨u1, p⟩)
    have r2 : Src false s.heap i2 b i ls.toArray := (show s.heap.IsListIter i2 b i ∧ s.heap.IsList b ls.toArray from ⟨u2, p2.isList⟩)
    refine pyNext_zipS (I.ok.hd hc) ap zp pI pO r1 r2 (fun x y ex ey => ?_) fun _ h' kp => ⟨rfl, I.turnedL (t' := s.toks) (ch := [z, ti, to, i1, i2]) (fun c o nb q => kp c o (fun e => nb (by simp [e])) (fun e => nb (by simp [e])) (fun e => nb (by simp [e])) (fun e => nb (by simp [e])) q) hf⟩
    exfalso
    rcases hend with q | q
    · have : ts.toArray[i]? = none := by simp; omega
      rw [this] at ex; cases ex
    · have : ls.toArray[i]? = none := by simp; omega
      rw [this] at ey; cases ey
  self := fun A i s Q E st h => wpAny_pyIter_zip st.1 h
def iZipM (K : PySem.W.Frag) (ta : TA) : TI := fun σ H R => ta σ H fun vs H1 => ∃ a b xs ys, vs = [.ref a, .ref b] ∧ SqT K H1 a xs ∧ SqL K H1 b ys ∧ R (ItzM K a b) H1
theorem pi_zipM {X : Cx} {e e2 : Expr} {ta : TA} {p pos tpos : Pos} {elts : List Expr} {kk : Nat} (hg : Gl X "zip") (hm : X.mg "zip" = none) (ha : PA X [e, e2] ta)
    (hs : starEach [e, e2] X.env = (false, eval e X.env) :: starEach [e2] X.env := by rfl) (hpl : (backTo pos (starEach [e2] X.env)).any (·.1) = false := by rfl) : PI X (.Tuple elts kk tpos) (.Call (.Name "zip" p) [e, e2] [] pos) (iZipM X.K ta) := by
  refine ⟨fun pins s σ H R I h => Call_ (ld_blt I hg hm PyProof.Rows.boot_zip (PyProof.Rows.callWith_type1 (thn (ha.run pos pins s σ H _ I h) fun us s1 ⟨vs, H1, I1, r1, q1⟩ => ?_) hs hpl))⟩
  obtain ⟨a, b, xs, ys, ex, qa, qb, q⟩ := q1
  subst ex
  cases r1 with | cons r rr => cases rr with | cons r' rr =>
    cases rr; cases r; cases r'
    obtain ⟨ts, rv, p1, _⟩ := I1.tuple qa
    obtain ⟨ls, rv2, p2, _⟩ := I1.list qb
    obtain ⟨o1, ho1, _⟩ := id p1
    refine call_tl (show s1.heap.IsTuple a ts.toArray from p1) p2.isList fun h' zp pI pO w1 w2 kp => wpAny_pyIter_zip zp ?_
    have I2 : Inv X pins σ H1 { s1 with heap := h' } := I1.kept (t' := s1.toks) kp
    obtain ⟨t1, _⟩ := (show h'.IsTupleIter s1.heap.objs.size a 0 ∧ h'.IsTuple a ts.toArray from w1)
    obtain ⟨t2, _⟩ := (show h'.IsListIter (s1.heap.objs.size + 1) b 0 ∧ h'.IsList b ls.toArray from w2)
    refine ⟨s1.heap.objs.size + 4, [s1.heap.objs.size + 4, s1.heap.objs.size + 2, s1.heap.objs.size + 3, s1.heap.objs.size, s1.heap.objs.size + 1], _, _, H1, rfl, I2, turn_tl (PySem.W.ktu_apart s1.heap.objs.size a b (Heap.lt_size ho1) p2.lt), ⟨zp, pI, ⟨_, _, pO⟩, t1, t2⟩, fun c hcm => ?_, q⟩
    have le : s1.heap.objs.size ≤ c := by
      rcases (show c = s1.heap.objs.size + 4 ∨ c = s1.heap.objs.size + 2 ∨ c = s1.heap.objs.size + 3 ∨ c = s1.heap.objs.size ∨ c = s1.heap.objs.size + 1 by simpa using hcm) with z | z | z | z | z <;> subst z
      · exact Nat.le_add_right _ _
      · exact Nat.le_add_right _ _
      · exact Nat.le_add_right _ _
      · exact Nat.le_refl _
      · exact Nat.le_add_right _ _
    exact I1.fpOk le (I1.hok.fresh le)
end Fw
namespace Fw
open PySem PySem.Spec PyProof.Rows L2
section
variable {c : Ct} {w w1 : Wd} {M : Hh} {H H1 : Hp}
structure Wk (c : Ct) (J : It) (g : List (Nat × List D)) (xs : List D) (w0 : Wd) (H0 : Hp) : Prop where
  go : ∀ w M H, Gr w0 H0 w H → Sim c w M H → guardOk g M → ∀ i d, xs[i]? = some d → J.go i H ∧ ∀ x H', J.yld i H x H' → Stp w H w H' ∧ Sim c w M H' ∧ Rep c w H' d x
  stop : ∀ w M H, Gr w0 H0 w H → Sim c w M H → guardOk g M → ∀ i, xs.length ≤ i → J.stop i H
inductive Std (c : Ct) (g : List (Nat × List D)) (xs : List D) (w0 : Wd) (H0 : Hp) (a : Addr) : Prop where
  | tup (vs : List V) (q : SqTf c.K c.kt w0 H0 a vs) (r : RepL c w0 H0 xs vs) : Std c g xs w0 H0 a
theorem SqL.lt {K : PySem.W.Frag} {a : Addr} {vs : List V} {H : Hp} {i : Nat} {u : V} (h : SqL K H a vs) (e : vs[i]? = some u) : (Itl K a).go i H := ⟨vs, u, h, e⟩
def LstAt (c : Ct) (w0 : Wd) (H0 : Hp) (a : Addr) (g : List (Nat × List D)) (xs : List D) : Prop :=
  ∀ w M H, Gr w0 H0 w H → Sim c w M H → guardOk g M → ∃ vs, SqL c.K H a vs ∧ RepL c w H xs vs
def TupAt (c : Ct) (w0 : Wd) (H0 : Hp) (a : Addr) (xs : List D) : Prop :=
  ∀ w H, Gr w0 H0 w H → ∃ vs, SqT c.K H a vs ∧ RepL c w H xs vs
theorem lstAt_of (S : Sim c w M H) {d : D} {xs : List D} {v : V} (h : lstOf M d = some xs) (r : Rep c w H d v) : ∃ a, v = .ref a ∧ (∃ vs, SqL c.K H a vs) ∧ LstAt c w H a (guardOf d xs) xs := by
  cases d with
  | lst ys =>
    simp only [lstOf, Option.some.injEq] at h; subst h
    obtain ⟨a, vs, e, q, z, rr⟩ := rep_lst.mp r
    exact ⟨a, e, ⟨vs, q.sq⟩, fun w1 M1 H1 g S1 _ => ⟨vs, (q.gr g).sq, RepL.gr g _ _ rr⟩⟩
  | ref i =>
    obtain ⟨a, e, hi⟩ := rep_ref.mp r
    obtain ⟨vs, e2, z, rr⟩ := S.cell i a (.lst xs) hi (at_ref h)
    refine ⟨a, e, ⟨vs, .of e2⟩, fun w1 M1 H1 g S1 ok => ?_⟩
    have hM : M1[i]? = some (.lst xs) := ok (i, xs) (by simp [guardOf])
    obtain ⟨vs1, e3, z1, r1⟩ := S1.cell i a (.lst xs) (g.ix _ _ hi) hM
    exact ⟨vs1, .of e3, r1⟩
  | _ => simp [lstOf] at h
theorem tupAt_of {xs : List D} {v : V} (r : Rep c w H (.tup xs) v) : ∃ a, v = .ref a ∧ (∃ vs, SqT c.K H a vs) ∧ TupAt c w H a xs := by
  obtain ⟨a, vs, e, q, z, rr⟩ := rep_tup.mp r
  exact ⟨a, e, ⟨vs, q.sq⟩, fun w1 H1 g => ⟨vs, (q.gr g).sq, RepL.gr g _ _ rr⟩⟩
theorem wk_list {a : Addr} {g : List (Nat × List D)} {xs : List D} (h : LstAt c w H a g xs) : Wk c (Itl c.K a) g xs w H := by
  refine ⟨fun w1 M1 H1 gr S ok i d e => ?_, fun w1 M1 H1 gr S ok i hi => ?_⟩
  · obtain ⟨vs, q, r⟩ := h w1 M1 H1 gr S ok
    obtain ⟨u, e2, r2⟩ := r.get e
    refine ⟨⟨vs, u, q, e2⟩, fun x H' y => ?_⟩
    obtain ⟨rfl, y⟩ := y
    have z := y vs q
    rw [e2] at z; cases z
    exact ⟨Stp.refl, S, r2⟩
  · obtain ⟨vs, q, r⟩ := h w1 M1 H1 gr S ok
    exact ⟨vs, q, by rw [← r.len]; exact hi⟩
theorem wk_tup {a : Addr} {g : List (Nat × List D)} {xs : List D} (h : TupAt c w H a xs) : Wk c (Itt c.K a) g xs w H := by
  refine ⟨fun w1 M1 H1 gr S ok i d e => ?_, fun w1 M1 H1 gr S ok i hi => ?_⟩
  · obtain ⟨vs, q, r⟩ := h w1 H1 gr
    obtain ⟨u, e2, r2⟩ := r.get e
    refine ⟨⟨vs, u, q, e2⟩, fun x H' y => ?_⟩
    obtain ⟨rfl, y⟩ := y
    have z := y vs q
    rw [e2] at z; cases z
    exact ⟨Stp.refl, S, r2⟩
  · obtain ⟨vs, q, r⟩ := h w1 H1 gr
    exact ⟨vs, q, by rw [← r.len]; exact hi⟩
theorem wk_str {l : List Nat} {g : List (Nat × List D)} (ok : ∀ x ∈ l, x < 1114112) : Wk c (L2.Its ⟨l.toArray⟩) g (l.map fun k => .str [k]) w H := by
  refine ⟨fun w1 M1 H1 gr S _ i d e => ?_, fun w1 M1 H1 gr S _ i hi => ?_⟩
  · rw [List.getElem?_map] at e
    obtain ⟨k, e2, rfl⟩ := Option.map_eq_some_iff.mp e
    refine ⟨by show i < l.toArray.size; simpa using (List.getElem?_eq_some_iff.mp e2).1, fun x H' y => ?_⟩
    obtain ⟨rfl, k', e3, rfl⟩ := y
    have e4 : l[i]? = some k' := by simpa using e3
    rw [e2] at e4; cases e4
    exact ⟨Stp.refl, S, rep_str.mpr ⟨rfl, by rw [sizeLine_eq]; simp, fun z hz => by
      have := List.mem_singleton.mp hz
      subst this
      exact ok _ (List.mem_of_getElem? e2)⟩⟩
  · show l.toArray.size ≤ i
    simpa using hi
theorem rngL_get {lo k : Int} {n i : Nat} {d : D} (h : (rngL lo k n)[i]? = some d) : i < n ∧ d = .int (lo + (i : Int) * k) := by
  unfold rngL at h
  rw [List.getElem?_map] at h
  obtain ⟨j, e, rfl⟩ := Option.map_eq_some_iff.mp h
  obtain ⟨h1, h2⟩ := List.getElem?_eq_some_iff.mp e
  rw [List.getElem_range] at h2
  subst h2
  exact ⟨by simpa using h1, rfl⟩
theorem wk_rng {lo : Int} {n : Nat} {g : List (Nat × List D)} : Wk c (Itr lo n) g (rngL lo 1 n) w H := by
  refine ⟨fun w1 M1 H1 gr S _ i d e => ?_, fun w1 M1 H1 gr S _ i hi => ?_⟩
  · obtain ⟨h1, rfl⟩ := rngL_get e
    refine ⟨h1, fun x H' y => ?_⟩
    obtain ⟨rfl, rfl⟩ := y
    exact ⟨Stp.refl, S, by rw [Int.mul_one]; exact rep_int.mpr rfl⟩
  · show n ≤ i
    simpa [rngL] using hi
theorem wk_rngC {lo k : Int} {n : Nat} {g : List (Nat × List D)} : Wk c (Itc lo k n) g (rngL lo k n) w H := by
  refine ⟨fun w1 M1 H1 gr S _ i d e => ?_, fun w1 M1 H1 gr S _ i hi => ?_⟩
  · obtain ⟨h1, rfl⟩ := rngL_get e
    refine ⟨h1, fun x H' y => ?_⟩
    obtain ⟨rfl, rfl⟩ := y
    exact ⟨Stp.refl, S, rep_int.mpr rfl⟩
  · show n ≤ i
    simpa [rngL] using hi
theorem enumL_get : ∀ {xs : List D} {k i : Nat} {d : D}, (enumL k xs)[i]? = some d → ∃ x, xs[i]? = some x ∧ d = .tup [.int ((k + i : Nat) : Int), x]
  | [], _, _, _, h => by simp [enumL] at h
  | x :: xs, k, 0, d, h => by simp [enumL] at h; exact ⟨x, rfl, h.symm⟩
  | x :: xs, k, i + 1, d, h => by
    simp only [enumL, List.getElem?_cons_succ] at h
    obtain ⟨y, e, e2⟩ := enumL_get h
    exact ⟨y, e, by rw [e2]; congr 4; try omega⟩
theorem enumL_len : ∀ (xs : List D) (k : Nat), (enumL k xs).length = xs.length
  | [], _ => rfl
  | _ :: xs, k => by simp [enumL, enumL_len xs]
theorem pair_new (S : Sim c w M H) {T : Addr} {x y : V} {d e : D} (hT : H T = none) (rx : Rep c w H d x) (ry : Rep c w H e y) :
    Stp w H w (upd H T (.tup [x, y])) ∧ Sim c w M (upd H T (.tup [x, y])) ∧ Rep c w (upd H T (.tup [x, y])) (.tup [d, e]) (.ref T) := by
  have s : Stp w H w (upd H T (.tup [x, y])) := Stp.laid hT
  exact ⟨s, S.laid hT, rep_tup.mpr ⟨T, [x, y], rfl, .inl ⟨S.fresh hT, upd_same⟩, by rw [sizeLine_eq]; simp, RepL.cons (Rep.mono s _ _ rx) (RepL.cons (Rep.mono s _ _ ry) RepL.nil)⟩⟩
theorem wk_enum {a : Addr} {g : List (Nat × List D)} {xs : List D} (h : LstAt c w H a g xs) : Wk c (Ite c.K a) g (enumL 0 xs) w H := by
  refine ⟨fun w1 M1 H1 gr S ok i d e => ?_, fun w1 M1 H1 gr S ok i hi => ?_⟩
  · obtain ⟨x, e1, rfl⟩ := enumL_get e
    obtain ⟨vs, q, r⟩ := h w1 M1 H1 gr S ok
    obtain ⟨u, e2, r2⟩ := r.get e1
    refine ⟨⟨vs, u, q, e2⟩, fun z H' y => ?_⟩
    obtain ⟨T, x', rfl, hT, rfl, y⟩ := y
    have z := y vs q
    rw [e2] at z; cases z
    rw [Nat.zero_add]
    exact pair_new S hT (rep_int.mpr rfl) r2
  · obtain ⟨vs, q, r⟩ := h w1 M1 H1 gr S ok
    rw [enumL_len] at hi
    exact ⟨vs, q, by rw [← r.len]; exact hi⟩
theorem zipL_get : ∀ {xs ys : List D} {i : Nat} {d : D}, (zipL xs ys)[i]? = some d → ∃ x y, xs[i]? = some x ∧ ys[i]? = some y ∧ d = .tup [x, y]
  | [], _, _, _, h => by simp [zipL] at h
  | _ :: _, [], _, _, h => by simp [zipL] at h
  | x :: xs, y :: ys, 0, d, h => by simp [zipL] at h; exact ⟨x, y, rfl, rfl, h.symm⟩
  | x :: xs, y :: ys, i + 1, d, h => by
    simp only [zipL, List.getElem?_cons_succ] at h
    obtain ⟨a, b, e, e2, e3⟩ := zipL_get h
    exact ⟨a, b, e, e2, e3⟩
theorem zipL_len : ∀ (xs ys : List D), (zipL xs ys).length = min xs.length ys.length
  | [], _ => by simp [zipL]
  | _ :: _, [] => by simp [zipL]
  | _ :: xs, _ :: ys => by simp [zipL, zipL_len xs ys]
theorem wk_zip {a b : Addr} {g1 g2 : List (Nat × List D)} {xs ys : List D} (h : LstAt c w H a g1 xs) (h' : LstAt c w H b g2 ys) : Wk c (Itz c.K a b) (g1 ++ g2) (zipL xs ys) w H := by
  refine ⟨fun w1 M1 H1 gr S ok i d e => ?_, fun w1 M1 H1 gr S ok i hi => ?_⟩
  · obtain ⟨x, y, e1, e1', rfl⟩ := zipL_get e
    obtain ⟨vs, q, r⟩ := h w1 M1 H1 gr S fun p hp => ok p (List.mem_append_left _ hp)
    obtain ⟨us, q', r'⟩ := h' w1 M1 H1 gr S fun p hp => ok p (List.mem_append_right _ hp)
    obtain ⟨u, e2, r2⟩ := r.get e1
    obtain ⟨u', e2', r2'⟩ := r'.get e1'
    refine ⟨⟨vs, us, u, u', q, q', e2, e2'⟩, fun z H' y => ?_⟩
    obtain ⟨T, x', y', rfl, hT, rfl, y1, y2⟩ := y
    have z := y1 vs q
    rw [e2] at z; cases z
    have z := y2 us q'
    rw [e2'] at z; cases z
    exact pair_new S hT r2 r2'
  · obtain ⟨vs, q, r⟩ := h w1 M1 H1 gr S fun p hp => ok p (List.mem_append_left _ hp)
    obtain ⟨us, q', r'⟩ := h' w1 M1 H1 gr S fun p hp => ok p (List.mem_append_right _ hp)
    rw [zipL_len] at hi
    exact ⟨vs, us, q, q', by rw [← r.len, ← r'.len]; omega⟩
theorem wk_zipT {a b : Addr} {g : List (Nat × List D)} {xs ys : List D} (h : TupAt c w H a xs) (h' : TupAt c w H b ys) : Wk c (RZ.ItzT c.K a b) g (zipL xs ys) w H := by
  refine ⟨fun w1 M1 H1 gr S ok i d e => ?_, fun w1 M1 H1 gr S ok i hi => ?_⟩
  · obtain ⟨x, y, e1, e1', rfl⟩ := zipL_get e
    obtain ⟨vs, q, r⟩ := h w1 H1 gr
    obtain ⟨us, q', r'⟩ := h' w1 H1 gr
    obtain ⟨u, e2, r2⟩ := r.get e1
    obtain ⟨u', e2', r2'⟩ := r'.get e1'
    refine ⟨⟨vs, us, u, u', q, q', e2, e2'⟩, fun z H' y => ?_⟩
    obtain ⟨T, x', y', rfl, hT, rfl, y1, y2⟩ := y
    have z := y1 vs q
    rw [e2] at z; cases z
    have z := y2 us q'
    rw [e2'] at z; cases z
    exact pair_new S hT r2 r2'
  · obtain ⟨vs, q, r⟩ := h w1 H1 gr
    obtain ⟨us, q', r'⟩ := h' w1 H1 gr
    rw [zipL_len] at hi
    exact ⟨vs, us, q, q', by rw [← r.len, ← r'.len]; omega⟩
end
section
variable {c : Ct} {w : Wd} {M : Hh} {H : Hp}
theorem wk_zipM {a b : Addr} {g2 : List (Nat × List D)} {xs ys : List D} (h : TupAt c w H a xs) (h' : LstAt c w H b g2 ys) : Wk c (ItzM c.K a b) g2 (zipL xs ys) w H := by
  refine ⟨fun w1 M1 H1 gr S ok i d e => ?_, fun w1 M1 H1 gr S ok i hi => ?_⟩
  · obtain ⟨x, y, e1, e1', rfl⟩ := zipL_get e
    obtain ⟨vs, q, r⟩ := h w1 H1 gr
    obtain ⟨us, q', r'⟩ := h' w1 M1 H1 gr S ok
    obtain ⟨u, e2, r2⟩ := r.get e1
    obtain ⟨u', e2', r2'⟩ := r'.get e1'
    refine ⟨⟨vs, us, u, u', q, q', e2, e2'⟩, fun z H' y => ?_⟩
    obtain ⟨T, x', y', rfl, hT, rfl, y1, y2⟩ := y
    have z := y1 vs q
    rw [e2] at z; cases z
    have z := y2 us q'
    rw [e2'] at z; cases z
    exact pair_new S hT r2 r2'
  · obtain ⟨vs, q, r⟩ := h w1 H1 gr
    obtain ⟨us, q', r'⟩ := h' w1 M1 H1 gr S ok
    rw [zipL_len] at hi
    exact ⟨vs, us, q, q', by rw [← r.len, ← r'.len]; omega⟩
end
def OkI (c : Ct) (k : ItK) (w : Wd) (H : Hp) (r : Out (List D)) (R : It → Hp → Prop) (E : XK) : Prop := match r with
  | .ok vs M' => match itsD k vs M' with
    | some (xs, g) => ∀ w' H' J, Stp w H w' H' → Sim c w' M' H' → Wk c J g xs w' H' → R J H'
    | none => False
  | .exn x fs M' => ∀ w' H' dd, Stp w H w' H' → Sim c w' M' H' → RepX c w' H' fs dd → E (.ref (c.ca x)) dd H'
  | .bad => False
def tI (c : Ct) (W : WX) (k : ItK) (g : Sl → Hh → Out (List D)) : TI := fun τ H R => ∃ w M σ, Sim c w M H ∧ RepS c w H σ τ ∧ OkI c k w H (g σ M) R (fun cls d H' => W cls d τ H')
theorem PI.weak' {X : Cx} {tg iter : Expr} {t t' : TI} (h : PI X tg iter t) (k : ∀ τ H R, t' τ H R → t τ H R) : PI X tg iter t' := ⟨fun pins s τ H R I q => h.run pins s τ H R I (k _ _ _ q)⟩
section
variable {c : Ct} {W : WX} {X : Cx} {τ : L2.St}
theorem its_of {k : ItK} {g : Sl → Hh → Out (List D)} {H : Hp} {R : It → Hp → Prop} (h : tI c W k g τ H R) :
    tL c W g τ H fun vs H1 => ∃ w1 M1 ds xs gd, Sim c w1 M1 H1 ∧ RepL c w1 H1 ds vs ∧ itsD k ds M1 = some (xs, gd) ∧ ∀ J, Wk c J gd xs w1 H1 → R J H1 := by
  obtain ⟨w, M, σ, S, RS, h⟩ := h
  refine ⟨w, M, σ, S, RS, ?_⟩
  cases e : g σ M with
  | bad => rw [e] at h; exact h
  | exn x fs M' => rw [e] at h; exact h
  | ok ds M' =>
    rw [e] at h
    intro w1 H1 vs s S1 r
    cases hi : itsD k ds M' with
    | none => simp only [OkI, hi] at h
    | some p =>
      obtain ⟨xs, gd⟩ := p
      simp only [OkI, hi] at h
      exact ⟨w1, M', ds, xs, gd, S1, r, hi, fun J wk => h w1 H1 J s S1 wk⟩
theorem one_of {f : Sl → Hh → Out D} {H : Hp} {Q : List V → Hp → Prop} (h : tL c W (fun σ M => (f σ M).bind fun x M1 => .ok [x] M1) τ H Q) : tE c W f τ H fun v H1 => Q [v] H1 := by
  obtain ⟨w, M, σ, S, RS, h⟩ := h
  exact (nxt S RS h).imp fun v H1 ⟨w1, M1, d, s, S1, RS1, r, q⟩ => OkG.ret q S1 (RepL.cons r RepL.nil)
theorem i_seq {tg e : Expr} {f : Sl → Hh → Out D} (hK : X.K = c.K) (he : PE X e (tE c W f)) : PI X tg e (tI c W .seq fun σ M => (f σ M).bind fun x M1 => .ok [x] M1) := by
  refine ⟨fun pins s τ H R I h => ?_⟩
  refine thn (he.run pins s τ H _ I (one_of (its_of h))) fun v s1 ⟨x, H1, I1, r1, q1⟩ => ?_
  obtain ⟨w1, M1, ds, xs, gd, S1, rl, hi, q⟩ := q1
  obtain ⟨d, ds', e1, r2, r3⟩ : ∃ d ds', ds = d :: ds' ∧ Rep c w1 H1 d x ∧ RepL c w1 H1 ds' [] := by
    cases ds with
    | nil => simp [RepL] at rl
    | cons d ds =>
      obtain ⟨v, r, e, h1, h2⟩ := rl.uncons
      cases e
      exact ⟨d, ds, rfl, h1, h2⟩
  subst e1
  have e2 : ds' = [] := by cases ds' with | nil => rfl | cons y ys => obtain ⟨_, _, e, _⟩ := r3.uncons; cases e
  subst e2
  have sq : ∀ xs0, seqOf M1 d = some xs0 → (xs, gd) = (xs0, guardOf d xs0) → wpAny (model X.prog X.w) X.A (pyIter v) (PIE X pins τ tg R) X.xe s1 := by
    intro xs0 e0 e3
    cases e3
    have lst : ∀ {a : Addr}, x = .ref a → (∃ vs, SqL c.K H1 a vs) → LstAt c w1 H1 a (guardOf d xs) xs → wpAny (model X.prog X.w) X.A (pyIter v) (PIE X pins τ tg R) X.xe s1 := by
      intro a ea ⟨vs, hq⟩ hL
      subst ea
      cases r1
      obtain ⟨its, rv, p, hz⟩ := I1.list (by rw [hK]; exact hq)
      refine wpAny_pyIter_list p.isList ?_
      refine ⟨s1.heap.objs.size, [s1.heap.objs.size], _, _, H1, rfl, I1.kept (t' := s1.toks) fun b o e => Heap.get?_push_of_some _ e, turn_list a _, ⟨_, Heap.get?_push_size _ rfl, rfl, rfl⟩, fun b hb => ?_, by rw [hK]; exact q _ (wk_list hL)⟩
      have e : b = s1.heap.objs.size := by simpa using hb
      subst e
      exact I1.fpOk (Nat.le_refl _) (I1.hok.fresh (Nat.le_refl _))
    cases d with
    | tup ys =>
      cases e0
      obtain ⟨a, ea, ⟨vs, hq⟩, hT⟩ := tupAt_of r2
      subst ea
      cases r1
      obtain ⟨its, rv, p, hz⟩ := I1.tuple (by rw [hK]; exact hq)
      refine wpAny_pyIter_tuple (show s1.heap.IsTuple a its.toArray from p) ?_
      refine ⟨s1.heap.objs.size, [s1.heap.objs.size], _, _, H1, rfl, I1.kept (t' := s1.toks) fun b o e => Heap.get?_push_of_some _ e, turn_tuple a _, ⟨_, Heap.get?_push_size _ rfl, rfl, rfl⟩, fun b hb => ?_, by rw [hK]; exact q _ (wk_tup hT)⟩
      have e : b = s1.heap.objs.size := by simpa using hb
      subst e
      exact I1.fpOk (Nat.le_refl _) (I1.hok.fresh (Nat.le_refl _))
    | lst ys =>
      obtain ⟨a, ea, hv, hL⟩ := lstAt_of S1 (show lstOf M1 (.lst ys) = some xs from e0) r2
      exact lst ea hv hL
    | ref i =>
      obtain ⟨a, ea, hv, hL⟩ := lstAt_of S1 (show lstOf M1 (.ref i) = some xs from e0) r2
      exact lst ea hv hL
    | _ => simp [seqOf] at e0
  cases d with
  | str l =>
    rw [rep_str] at r2
    obtain ⟨rfl, z, ok⟩ := r2
    obtain ⟨t, rfl⟩ := r1
    cases (show some (l.map fun k => D.str [k], ([] : List (Nat × List D))) = some (xs, gd) from hi)
    have wk : R (L2.Its ⟨l.toArray⟩) H1 := q _ (wk_str ok)
    cases ha : (⟨l.toArray⟩ : Str).cps.all (· < 128)
    · exact wpAny_pyIter_wide ha (pi_one (tk := s1.toks) I1 _ (turn_str _ _ t "str_iterator" (.inr rfl)) ⟨_, Heap.get?_push_size _ rfl, rfl, rfl⟩ wk)
    · exact wpAny_pyIter_ascii ha (pi_one (tk := s1.toks) I1 _ (turn_str _ _ t "str_ascii_iterator" (.inl rfl)) ⟨_, Heap.get?_push_size _ rfl, rfl, rfl⟩ wk)
  | tup ys =>
    obtain ⟨xs0, e0, e3⟩ := Option.map_eq_some_iff.mp (show (seqOf M1 (.tup ys)).map (fun xs => (xs, guardOf (.tup ys) xs)) = some (xs, gd) from hi)
    exact sq xs0 e0 e3.symm
  | lst ys =>
    obtain ⟨xs0, e0, e3⟩ := Option.map_eq_some_iff.mp (show (seqOf M1 (.lst ys)).map (fun xs => (xs, guardOf (.lst ys) xs)) = some (xs, gd) from hi)
    exact sq xs0 e0 e3.symm
  | ref i =>
    obtain ⟨xs0, e0, e3⟩ := Option.map_eq_some_iff.mp (show (seqOf M1 (.ref i)).map (fun xs => (xs, guardOf (.ref i) xs)) = some (xs, gd) from hi)
    exact sq xs0 e0 e3.symm
  | _ => simp [itsD, seqIt, seqOf] at hi
theorem i_tupc {tg e : Expr} {f : Sl → Hh → Out D} (hK : X.K = c.K) (he : PE X e (tE c W f)) : PI X tg e (tI c W .tupc fun σ M => (f σ M).bind fun x M1 => .ok [x] M1) := by
  refine ⟨fun pins s τ H R I h => ?_⟩
  refine thn (he.run pins s τ H _ I (one_of (its_of h))) fun v s1 ⟨x, H1, I1, r1, q1⟩ => ?_
  obtain ⟨w1, M1, ds, xs, gd, S1, rl, hi, q⟩ := q1
  obtain ⟨d, ds', e1, r2, r3⟩ : ∃ d ds', ds = d :: ds' ∧ Rep c w1 H1 d x ∧ RepL c w1 H1 ds' [] := by
    cases ds with
    | nil => simp [RepL] at rl
    | cons d ds =>
      obtain ⟨v, r, e, h1, h2⟩ := rl.uncons
      cases e
      exact ⟨d, ds, rfl, h1, h2⟩
  subst e1
  have e2 : ds' = [] := by cases ds' with | nil => rfl | cons y ys => obtain ⟨_, _, e, _⟩ := r3.uncons; cases e
  subst e2
  obtain ⟨ys, e0, e3⟩ := Option.map_eq_some_iff.mp (show (tupcOf d).map (fun xs => (xs, ([] : List (Nat × List D)))) = some (xs, gd) from hi)
  cases e3
  obtain ⟨a, o, ns, rfl, nm, e4, _, rfl⟩ := tupcOf_ok e0 r2
  have hq : SqT c.K H1 a (ns.map V.int) := .inl (.inr ⟨o, e4⟩)
  have hT : TupAt c w1 H1 a (ns.map D.int) := fun w' H' g => ⟨ns.map V.int, .inl (.inr ⟨o, (g.keep a _ e4 nm).2⟩), ints_rep ns⟩
  cases r1
  obtain ⟨its, rv, p, hz⟩ := I1.tuple (by rw [hK]; exact hq)
  refine wpAny_pyIter_tuple (show s1.heap.IsTuple a its.toArray from p) ?_
  refine ⟨s1.heap.objs.size, [s1.heap.objs.size], _, _, H1, rfl, I1.kept (t' := s1.toks) fun b o e => Heap.get?_push_of_some _ e, turn_tuple a _, ⟨_, Heap.get?_push_size _ rfl, rfl, rfl⟩, fun b hb => ?_, by rw [hK]; exact q _ (wk_tup hT)⟩
  have e : b = s1.heap.objs.size := by simpa using hb
  subst e
  exact I1.fpOk (Nat.le_refl _) (I1.hok.fresh (Nat.le_refl _))
theorem rep1' {w : Wd} {H : Hp} {d : D} {v : V} (r : RepL c w H [d] [v]) : Rep c w H d v := by
  obtain ⟨_, _, e, h1, h2⟩ := r.uncons
  cases e; exact h1
theorem i_rng1 {tg a : Expr} {p pos : Pos} {g : Sl → Hh → Out (List D)} (hg : Gl X "range") (hm : X.mg "range" = none) (ha : PA X [a] (tL c W g)) (hs : notStar a = true) : PI X tg (.Call (.Name "range" p) [a] [] pos) (tI c W .rng1 g) :=
  PI.weak' (pi_range1 hg hm ha (star_eq hs)) fun τ H R h => (its_of h).imp fun vs H1 ⟨w1, M1, ds, xs, gd, S1, rl, hi, q⟩ => by
    replace hi : rng1It ds = some (xs, gd) := hi
    unfold rng1It at hi
    split at hi
    · rename_i j
      split at hi
      · rename_i hl
        cases hi
        obtain ⟨v, rfl, r2⟩ := rep1 rl
        rw [rep_int] at r2; subst r2
        unfold lim at hl
        exact ⟨j, rfl, by omega, by omega, q _ wk_rng⟩
      · cases hi
    · cases hi
theorem i_rng2 {tg a b : Expr} {p pos : Pos} {g : Sl → Hh → Out (List D)} (hg : Gl X "range") (hm : X.mg "range" = none) (ha : PA X [a, b] (tL c W g)) (hs : notStar a = true) (hs2 : notStar b = true) : PI X tg (.Call (.Name "range" p) [a, b] [] pos) (tI c W .rng2 g) :=
  PI.weak' (pi_range2 hg hm ha (by rw [star_eq hs, star_eq hs2]; rfl) (star_eq hs2)) fun τ H R h => (its_of h).imp fun vs H1 ⟨w1, M1, ds, xs, gd, S1, rl, hi, q⟩ => by
    replace hi : rng2It ds = some (xs, gd) := hi
    unfold rng2It at hi
    split at hi
    · rename_i i j
      split at hi
      · rename_i hl
        cases hi
        obtain ⟨v, u, rfl, r2, r3⟩ := rep2 rl
        rw [rep_int] at r2 r3; subst r2 r3
        unfold lim at hl
        exact ⟨i, j, rfl, ⟨by omega, by omega, by omega, by omega⟩, q _ wk_rng⟩
      · cases hi
    · cases hi
theorem rep3 {w : Wd} {H : Hp} {d e f : D} {vs : List V} (r : RepL c w H [d, e, f] vs) : ∃ v u z, vs = [v, u, z] ∧ Rep c w H d v ∧ Rep c w H e u ∧ Rep c w H f z := by
  obtain ⟨v, q, rfl, r1, r2⟩ := r.uncons
  obtain ⟨u, z, rfl, r3, r4⟩ := rep2 r2
  exact ⟨v, u, z, rfl, r1, r3, r4⟩
theorem i_rng3 {tg a b d : Expr} {p pos : Pos} {g : Sl → Hh → Out (List D)} (hg : Gl X "range") (hm : X.mg "range" = none) (ha : PA X [a, b, d] (tL c W g)) (hs : notStar a = true) (hs2 : [b, d].all notStar = true) : PI X tg (.Call (.Name "range" p) [a, b, d] [] pos) (tI c W .rng3 g) :=
  PI.weak' (pi_range3 hg hm ha (star_eq hs) (star_any hs2)) fun τ H R h => (its_of h).imp fun vs H1 ⟨w1, M1, ds, xs, gd, S1, rl, hi, q⟩ => by
    replace hi : rng3It ds = some (xs, gd) := hi
    unfold rng3It at hi
    split at hi
    · rename_i i j k
      split at hi
      · rename_i hl
        cases hi
        obtain ⟨v, u, z, rfl, r2, r3, r4⟩ := rep3 rl
        rw [rep_int] at r2 r3 r4; subst r2 r3 r4
        exact ⟨i, j, k, _, rfl, ⟨hl.1, hl.2.1, hl.2.2, rangeSize_toNat _ _ _⟩, q _ wk_rngC⟩
      · cases hi
    · cases hi
theorem i_enum {e : Expr} {p pos tpos : Pos} {elts : List Expr} {kk : Nat} {g : Sl → Hh → Out (List D)} (hK : X.K = c.K) (hg : Gl X "enumerate") (hm : X.mg "enumerate" = none) (ha : PA X [e] (tL c W g)) (hs : notStar e = true) : PI X (.Tuple elts kk tpos) (.Call (.Name "enumerate" p) [e] [] pos) (tI c W .enum g) :=
  PI.weak' (pi_enum hg hm ha (star_eq hs)) fun τ H R h => (its_of h).imp fun vs H1 ⟨w1, M1, ds, xs, gd, S1, rl, hi, q⟩ => by
    replace hi : enumIt ds M1 = some (xs, gd) := hi
    unfold enumIt at hi
    split at hi
    · obtain ⟨ys, e1, e2⟩ := Option.map_eq_some_iff.mp hi
      cases e2
      obtain ⟨v, rfl, r2⟩ := rep1 rl
      obtain ⟨a, rfl, ⟨vs, hq⟩, hL⟩ := lstAt_of S1 e1 r2
      exact ⟨a, vs, rfl, by rw [hK]; exact hq, by rw [hK]; exact q _ (wk_enum hL)⟩
    · cases hi
def tlB (M : Hh) : List D → Bool
  | [.tup _, e] => (lstOf M e).isSome
  | _ => false
theorem its_on {k : ItK} {g : Sl → Hh → Out (List D)} {w : Wd} {M : Hh} {σ : Sl} {H : Hp} {R : It → Hp → Prop} (S : Sim c w M H) (RS : RepS c w H σ τ) (h : OkI c k w H (g σ M) R (fun cls d H' => W cls d τ H')) :
    tL c W g τ H fun vs H1 => ∃ w1 M1 ds xs gd, g σ M = .ok ds M1 ∧ Sim c w1 M1 H1 ∧ RepL c w1 H1 ds vs ∧ itsD k ds M1 = some (xs, gd) ∧ ∀ J, Wk c J gd xs w1 H1 → R J H1 := by
  refine ⟨w, M, σ, S, RS, ?_⟩
  cases e : g σ M with
  | bad => rw [e] at h; exact h
  | exn x fs M' => rw [e] at h; exact h
  | ok ds M' =>
    rw [e] at h
    intro w1 H1 vs s S1 r
    cases hi : itsD k ds M' with
    | none => simp only [OkI, hi] at h
    | some p =>
      obtain ⟨xs, gd⟩ := p
      simp only [OkI, hi] at h
      exact ⟨w1, M', ds, xs, gd, rfl, S1, r, hi, fun J wk => h w1 H1 J s S1 wk⟩
theorem i_zip {e e2 : Expr} {p pos tpos : Pos} {elts : List Expr} {kk : Nat} {g : Sl → Hh → Out (List D)} (hK : X.K = c.K) (hg : Gl X "zip") (hm : X.mg "zip" = none) (ha : PA X [e, e2] (tL c W g)) (hs : notStar e = true) (hs2 : [e2].all notStar = true) : PI X (.Tuple elts kk tpos) (.Call (.Name "zip" p) [e, e2] [] pos) (tI c W .zip g) := by
  refine ⟨fun pins s τ H R I h => ?_⟩
  obtain ⟨w, M, σ, S, RS, h⟩ := h
  have h0 := its_on S RS h
  by_cases tl : ∃ ds M1, g σ M = .ok ds M1 ∧ tlB M1 ds = true
  · obtain ⟨ds0, M0, e0, tb⟩ := tl
    refine (pi_zipM hg hm ha (star_eq hs) (star_any hs2)).run pins s τ H R I (h0.imp fun vs H1 ⟨w1, M1, ds, xs, gd, eg, S1, rl, hi, q⟩ => ?_)
    rw [e0] at eg
    cases eg
    unfold tlB at tb
    split at tb
    · rename_i ts e
      obtain ⟨v, u, rfl, r2, r3⟩ := rep2 rl
      obtain ⟨ys, e2⟩ := Option.isSome_iff_exists.mp tb
      have hi2 : (zipL ts ys, guardOf e ys) = (xs, gd) := by
        replace hi : zipIt [.tup ts, e] M0 = some (xs, gd) := hi
        have z : lstOf M0 (.tup ts) = none := rfl
        simp only [zipIt, z, zipTup] at hi
        cases e with
        | tup ys' => simp [lstOf] at e2
        | _ => simp only [e2, Option.map_some, Option.some.injEq] at hi; exact hi
      cases hi2
      obtain ⟨a, rfl, ⟨vs, hq⟩, hL⟩ := tupAt_of r2
      obtain ⟨b, rfl, ⟨us, hq2⟩, hL2⟩ := lstAt_of S1 e2 r3
      exact ⟨a, b, vs, us, rfl, by rw [hK]; exact hq, by rw [hK]; exact hq2, by rw [hK]; exact q _ (wk_zipM hL hL2)⟩
    · cases tb
  · refine (RZ.pi_zipA hg hm ha (star_eq hs) (star_any hs2)).run pins s τ H R I (h0.imp fun vs H1 ⟨w1, M1, ds, xs, gd, eg, S1, rl, hi, q⟩ => ?_)
    have nt : tlB M1 ds ≠ true := fun z => tl ⟨_, _, eg, z⟩
    replace hi : zipIt ds M1 = some (xs, gd) := hi
    unfold zipIt at hi
    split at hi
    · rename_i d e
      obtain ⟨v, u, rfl, r2, r3⟩ := rep2 rl
      split at hi
      · rename_i xs0 ys0 e1 e2
        cases hi
        obtain ⟨a, rfl, ⟨vs, hq⟩, hL⟩ := lstAt_of S1 e1 r2
        obtain ⟨b, rfl, ⟨us, hq2⟩, hL2⟩ := lstAt_of S1 e2 r3
        exact ⟨a, b, vs, us, rfl, .inl ⟨by rw [hK]; exact hq, by rw [hK]; exact hq2, by rw [hK]; exact q _ (wk_zip hL hL2)⟩⟩
      · unfold zipTup at hi
        split at hi
        · rename_i ts _
          split at hi
          · cases hi
            obtain ⟨a, rfl, ⟨vs, hq⟩, hL⟩ := tupAt_of r2
            obtain ⟨b, rfl, ⟨us, hq2⟩, hL2⟩ := tupAt_of r3
            exact ⟨a, b, vs, us, rfl, .inr ⟨by rw [hK]; exact hq, by rw [hK]; exact hq2, by rw [hK]; exact q _ (wk_zipT hL hL2)⟩⟩
          · obtain ⟨ys, e2, _⟩ := Option.map_eq_some_iff.mp hi
            exact absurd (show tlB M1 [.tup ts, e] = true by simp only [tlB, e2, Option.isSome_some]) nt
        · cases hi
    · cases hi
end
end Fw
namespace Fw
open PySem PySem.Spec PyProof.Rows L2
def storable (sc : Scope) (fb : Bool) (x : Str) : Bool := match sc.names.lookup x with
  | some .local => true
  | some .cell => fb
  | _ => false
def setV : List Nat → List V → L2.St → L2.St
  | i :: is, v :: vs, τ => setV is vs (τ.set i (some v))
  | _, _, τ => τ
theorem setV_len : ∀ (is : List Nat) (vs : List V) (τ : L2.St), (setV is vs τ).length = τ.length
  | [], _, _ => by simp [setV]
  | _ :: _, [], _ => by simp [setV]
  | i :: is, v :: vs, τ => by simp only [setV]; rw [setV_len is vs]; simp
theorem setV_off : ∀ (is : List Nat) (vs : List V) (τ : L2.St) (j : Nat), j ∉ is → (setV is vs τ)[j]? = τ[j]?
  | [], _, _, _, _ => by simp [setV]
  | _ :: _, [], _, _, _ => by simp [setV]
  | i :: is, v :: vs, τ, j, h => by
    simp only [List.mem_cons, not_or] at h
    simp only [setV]
    rw [setV_off is vs _ j h.2, List.getElem?_set_ne (Ne.symm h.1)]
structure RepOff (c : Ct) (w : Wd) (H : Hp) (tg : List Nat) (σ : Sl) (τ : L2.St) : Prop where
  len : σ.length = τ.length
  at_ : ∀ (i : Nat) (d : D), i ∉ tg → σ[i]? = some (some d) → ∃ v, τ[i]? = some (some v) ∧ Rep c w H d v
section
variable {c : Ct} {w : Wd} {H : Hp} {σ σ1 : Sl} {τ : L2.St}
theorem RepS.off (h : RepS c w H σ τ) (tg : List Nat) : RepOff c w H tg σ τ := ⟨h.len, fun i d _ e => h.at_ i d e⟩
theorem RepOff.full (h : RepOff c w H [] σ τ) : RepS c w H σ τ := ⟨h.len, fun i d e => h.at_ i d (by simp) e⟩
theorem RepOff.set {tg : List Nat} {i : Nat} {d : D} {v : V} (h : RepOff c w H (i :: tg) σ τ) (r : Rep c w H d v) : RepOff c w H tg (σ.set i (some d)) (τ.set i (some v)) := by
  refine ⟨by simpa using h.len, fun j e hj hg => ?_⟩
  by_cases hij : i = j
  · subst hij
    by_cases hl : i < σ.length
    · rw [List.getElem?_set_self hl] at hg
      cases hg
      exact ⟨v, List.getElem?_set_self (by rw [← h.len]; exact hl), r⟩
    · rw [List.getElem?_eq_none (by simpa using hl)] at hg; cases hg
  · rw [List.getElem?_set_ne hij] at hg
    rw [List.getElem?_set_ne hij]
    exact h.at_ j e (by simp only [List.mem_cons, not_or]; exact ⟨Ne.symm hij, hj⟩) hg
theorem RepOff.all : ∀ {tg : List Nat} {ds : List D} {vs : List V} {σ σ1 : Sl} {τ : L2.St}, RepOff c w H tg σ τ → RepL c w H ds vs → setAll tg ds σ = some σ1 → RepS c w H σ1 (setV tg vs τ)
  | [], [], vs, σ, σ1, τ, h, r, e => by
    cases e
    simp only [setV]
    exact h.full
  | [], _ :: _, _, _, _, _, _, _, e => by cases e
  | _ :: _, [], _, _, _, _, _, _, e => by cases e
  | i :: tg, d :: ds, vs, σ, σ1, τ, h, r, e => by
    obtain ⟨v, q, rfl, r1, r2⟩ := r.uncons
    simp only [setV]
    exact RepOff.all (h.set r1) r2 e
theorem setAll_len : ∀ {tg : List Nat} {ds : List D} {σ σ1 : Sl}, setAll tg ds σ = some σ1 → tg.length = ds.length
  | [], [], _, _, _ => rfl
  | [], _ :: _, _, _, e => by cases e
  | _ :: _, [], _, _, e => by cases e
  | _ :: tg, _ :: ds, _, _, e => by simp [setAll_len (tg := tg) (ds := ds) e]
end
def gNs (is : List Nat) : TGs := fun vs τ H Q => vs.length = is.length ∧ Q (setV is vs τ) H
def tG (c : Ct) (tg : List Nat) : TG := fun v τ H Q => ∃ w d σ σ1, RepOff c w H tg σ τ ∧ Rep c w H d v ∧ bindTg tg d σ = some σ1 ∧ ∀ τ1, RepS c w H σ1 τ1 → τ1.length = τ.length → (∀ j, j ∉ tg → τ1[j]? = τ[j]?) → Q τ1 H
theorem _root_.L2.PG.weak {X : Cx} {tg : Expr} {t t' : TG} (h : PG X tg t) (k : ∀ v τ H Q, t' v τ H Q → t v τ H Q) : PG X tg t' := ⟨fun pins s τ H v u Q I r q => h.run pins s τ H v u Q I r (k _ _ _ _ q)⟩
section
variable {c : Ct} {X : Cx} {N : List Str} {sc : Scope} {fb : Bool}
structure StOk (N : List Str) (sc : Scope) (fb : Bool) (X : Cx) : Prop where
  hN : X.N = N
  nd : N.Nodup
  sc : X.env.scope = sc
  fn : fb = true → ∀ x, X.fn x = true
theorem StOk.name (h : StOk N sc fb X) {i : Nat} {x : Str} {pos : Pos} (hi : N[i]? = some x) (hs : storable sc fb x = true) : PG X (.Name x pos) (gName i) := by
  unfold storable at hs
  have hnd : X.N.Nodup := by rw [h.hN]; exact h.nd
  have hi' : X.N[i]? = some x := by rw [h.hN]; exact hi
  split at hs
  · rename_i e
    exact pg_name hnd hi' (.inl (by rw [h.sc]; exact e)) (.inr (by rw [h.sc]; exact e))
  · rename_i e
    exact pg_name hnd hi' (.inr (by rw [h.sc]; exact e)) (.inl (h.fn hs x))
  · cases hs
def chkNs (N : List Str) (sc : Scope) (fb : Bool) : List Nat → List Expr → Bool
  | [], [] => true
  | i :: is, .Name x _ :: es => decide (N[i]? = some x) && storable sc fb x && chkNs N sc fb is es
  | _, _ => false
theorem StOk.names (h : StOk N sc fb X) : ∀ {is : List Nat} {es : List Expr}, chkNs N sc fb is es = true → PGs X es (gNs is) ∧ (assignEach es X.env).length = is.length ∧ (assignEach es X.env).findIdx? (·.1) = none
  | [], [], _ => by
    refine ⟨⟨fun pins s τ H vs us Q I r q => ?_⟩, rfl, rfl⟩
    obtain ⟨e, q⟩ := q
    have : vs = [] := by simpa using e
    subst this
    exact pgs_nil.run pins s τ H _ us Q I r ⟨rfl, by simpa [setV] using q⟩
  | [], _ :: _, e => by cases e
  | _ :: _, [], e => by simp [chkNs] at e
  | i :: is, x :: es, e => by
    cases x with
    | Name x pos =>
      simp only [chkNs, Bool.and_eq_true, decide_eq_true_eq] at e
      obtain ⟨p1, p2, p3⟩ := StOk.names h (is := is) (es := es) e.2
      refine ⟨⟨fun pins s τ H vs us Q I r q => ?_⟩, by simp [assignEach, p2], by
        show ((false, _) :: assignEach es X.env).findIdx? (·.1) = none
        rw [List.findIdx?_cons]
        simp [p3]⟩
      obtain ⟨el, q⟩ := q
      cases vs with
      | nil => simp at el
      | cons v vs =>
        have z := pgs_cons (h.name e.1.1 e.1.2 (pos := pos)) p1
        refine z.run pins s τ H (v :: vs) us Q I r ⟨v, vs, rfl, ?_⟩
        refine ⟨by simpa using el, ?_⟩
        simpa [setV] using q
    | _ => simp [chkNs] at e
def chkTg (N : List Str) (sc : Scope) (fb : Bool) : List Nat → Expr → Bool
  | [i], .Name x _ => decide (N[i]? = some x) && storable sc fb x
  | is, .Tuple es _ _ => decide (2 ≤ is.length) && chkNs N sc fb is es
  | _, _ => false
theorem bindTg_many {is : List Nat} {d : D} {σ σ1 : Sl} (h2 : 2 ≤ is.length) (h : bindTg is d σ = some σ1) : ∃ ds, d = .tup ds ∧ setAll is ds σ = some σ1 := by
  unfold bindTg at h
  split at h
  · simp at h2
  · split at h
    · exact ⟨_, rfl, h⟩
    · cases h
theorem StOk.tg (h : StOk N sc fb X) (hc : X.calm = true) (hK : X.K = c.K) {is : List Nat} {e : Expr} (k : chkTg N sc fb is e = true) : PG X e (tG c is) := by
  cases e with
  | Name x pos =>
    cases is with
    | nil => simp [chkTg] at k
    | cons i is =>
      cases is with
      | nil =>
        simp only [chkTg, Bool.and_eq_true, decide_eq_true_eq] at k
        refine (h.name k.1 k.2).weak fun v τ H Q ⟨w, d, σ, σ1, RS, r, hb, q⟩ => ?_
        cases (show some (σ.set i (some d)) = some σ1 from hb)
        exact q _ (RS.set r).full (by simp) fun j hj => List.getElem?_set_ne (by simp only [List.mem_singleton] at hj; exact fun z => hj z.symm)
      | cons _ _ => simp [chkTg] at k
  | Tuple es kk pos =>
    have k2 : (decide (2 ≤ is.length) && chkNs N sc fb is es) = true := by
      cases is with
      | nil => simpa [chkTg] using k
      | cons i is => cases is <;> simpa [chkTg] using k
    simp only [Bool.and_eq_true, decide_eq_true_eq] at k2
    obtain ⟨p1, p2, p3⟩ := h.names k2.2
    refine (pg_tup hc p1 p2 p3).weak fun v τ H Q ⟨w, d, σ, σ1, RS, r, hb, q⟩ => ?_
    obtain ⟨ds, rfl, hs⟩ := bindTg_many k2.1 hb
    obtain ⟨a, vs, rfl, hq, z, rr⟩ := rep_tup.mp r
    refine ⟨a, vs, rfl, by rw [hK]; exact hq.sq, ?_, ?_, ?_⟩
    · rw [← rr.len, setAll_len hs]
    · rw [← rr.len, setAll_len hs]
    · exact q _ (RS.all rr hs) (setV_len _ _ _) (setV_off _ _ _)
  | _ =>
    cases is with
    | nil => simp [chkTg] at k
    | cons i is => cases is <;> simp [chkTg] at k
end
def Wd.away (w : Wd) (a : Addr) : Wd := ⟨fun b => w.av b ∨ b = a, w.ι⟩
section
variable {c : Ct} {w w1 w2 : Wd} {H H1 H2 : Hp} {M : Hh} {a : Addr}
theorem Gr.away (g : Gr w H w1 H1) (ha : H a = none) : Gr w H (w1.away a) H1 := by
  refine ⟨fun b o h n => ?_, fun i b h => g.ix i b h⟩
  obtain ⟨h1, h2⟩ := g.keep b o h n
  refine ⟨?_, h2⟩
  rintro (m | m | m)
  · exact h1 (.inl m)
  · exact h1 (.inr m)
  · subst m; rw [ha] at h; cases h
theorem Stp.un (s : Stp (w.away a) H w1 H1) : Stp w H ⟨w.av, w1.ι⟩ H1 ∧ w1 = (⟨w.av, w1.ι⟩ : Wd).away a := by
  refine ⟨⟨rfl, s.ι, s.keep, s.live, s.frz⟩, ?_⟩
  have e := s.av
  obtain ⟨av, ι⟩ := w1
  simp only [Wd.away] at e ⊢
  rw [e]
theorem Stp.updAv (s : Stp w H w1 H1) (ha : H a = none) (o : HO) : Stp w H w1 (upd H1 a o) := ⟨s.av, s.ι, fun b u h n => by
  rw [upd_ne (fun z => by rw [z, ha] at h; cases h)]; exact s.keep b u h n, fun b h => by
  by_cases e : b = a
  · subst e; rw [upd_same]; simp
  · rw [upd_ne e]; exact s.live b h, fun b x u h => by
  rw [upd_ne (fun z => by rw [z, ha] at h; cases h)]; exact s.frz b x u h⟩
theorem Gr.updAv (ha : w.av a) (o : HO) : Gr w H w (upd H a o) := ⟨fun b u h n => ⟨n, by
  rw [upd_ne]
  · exact h
  · intro z
    subst z
    exact n (.inr ha)⟩, fun _ _ h => h⟩
theorem Sim.gr (S : Sim c w M H) (g : Gr w H w1 H1) (hi : w1.ι = w.ι) (hc : ∀ b ∈ w.ι, ∀ o, H b = some o → H1 b = some o) (hav : ∀ b, w1.av b → b ∉ w.ι ∧ ∃ o, H1 b = some o ∧ IsMut o) : Sim c w1 M H1 :=
  ⟨by rw [hi]; exact S.len, by rw [hi]; exact S.nd, fun b h => by rw [hi]; exact hav b h, fun i b mo e1 e2 => by
    rw [hi] at e1
    exact (S.cell i b mo e1 e2).gr g (hc b (List.mem_of_getElem? e1)), fun k d e => ⟨(S.gl k d e).1, Rep.gr g _ _ (S.gl k d e).2⟩⟩
theorem Sim.updAv (S : Sim c w M H) (ha : w.av a) {o : HO} (hm : IsMut o) : Sim c w M (upd H a o) :=
  S.gr (Gr.updAv ha o) rfl (fun b hb u e => by
    rw [upd_ne]
    · exact e
    · intro z; subst z; exact (S.av b ha).1 hb) fun b hb => by
    obtain ⟨n, u, e, m⟩ := S.av b hb
    refine ⟨n, ?_⟩
    by_cases z : b = a
    · subst z; exact ⟨o, upd_same, hm⟩
    · exact ⟨u, by rw [upd_ne z]; exact e, m⟩
theorem Gr.back : Gr (w.away a) H w H := ⟨fun b o h n => ⟨fun m => n (m.elim .inl fun z => .inr (.inl z)), h⟩, fun _ _ h => h⟩
theorem Sim.back (S : Sim c (w.away a) M H) : Sim c w M H := S.gr Gr.back rfl (fun _ _ _ e => e) fun b hb => S.av b (.inl hb)
theorem Gr.put (ha : H a = none) (o : HO) : Gr w H (w.away a) (upd H a o) := ⟨fun b u h n => by
  have ne : b ≠ a := fun z => by rw [z, ha] at h; cases h
  refine ⟨?_, by rw [upd_ne ne]; exact h⟩
  rintro (m | m | m)
  · exact n (.inl m)
  · exact n (.inr m)
  · exact ne m, fun _ _ h => h⟩
theorem Sim.put (S : Sim c w M H) (ha : H a = none) {o : HO} (hm : IsMut o) : Sim c (w.away a) M (upd H a o) := by
  refine S.gr (Gr.put ha o) rfl (fun b hb u e => by rw [upd_ne (fun z => by rw [z, ha] at e; cases e)]; exact e) ?_
  rintro b (hb | hb)
  · obtain ⟨n, u, e, m⟩ := S.av b hb
    exact ⟨n, u, by rw [upd_ne (fun z => by rw [z, ha] at e; cases e)]; exact e, m⟩
  · subst hb
    exact ⟨fun m => S.fresh ha (.inl m), o, upd_same, hm⟩
theorem Gr.adopt : Gr (w.away a) H (w.push a) H := ⟨fun b o h n => ⟨fun m => by
  rcases m with m | m
  · rcases List.mem_append.mp m with m | m
    · exact n (.inl m)
    · exact n (.inr (.inr (by simpa using m)))
  · exact n (.inr (.inl m)), h⟩, fun i b h => by
  have h : w.ι[i]? = some b := h
  show (w.ι ++ [a])[i]? = some b
  rw [List.getElem?_append_left (List.getElem?_eq_some_iff.mp h).1]
  exact h⟩
theorem Sim.adopt (S : Sim c (w.away a) M H) (n : ¬ w.av a) {mo : MO} (h : RepO c (w.push a) H a mo) : Sim c (w.push a) (M ++ [mo]) H := by
  have ha : a ∉ w.ι := (S.av a (.inr rfl)).1
  have g : Gr (w.away a) H (w.push a) H := Gr.adopt
  refine ⟨by have := S.len; simpa [Wd.push, Wd.away] using this, ?_, fun b hb => ?_, fun i b x e1 e2 => ?_, fun k d e => ⟨(S.gl k d e).1, Rep.gr g _ _ (S.gl k d e).2⟩⟩
  · refine List.nodup_append.mpr ⟨S.nd, by simp, fun x hx y hy e => ?_⟩
    have : y = a := by simpa using hy
    subst this; subst e
    exact ha hx
  · obtain ⟨h1, h2⟩ := S.av b (.inl hb)
    refine ⟨fun z => ?_, h2⟩
    rcases List.mem_append.mp z with z | z
    · exact h1 z
    · have : b = a := by simpa using z
      subst this
      exact n hb
  · have hlen : w.ι.length = M.length := S.len
    by_cases hi : i < w.ι.length
    · have e1' : w.ι[i]? = some b := by
        have e3 : (w.ι ++ [a])[i]? = some b := e1
        rwa [List.getElem?_append_left hi] at e3
      have e2' : M[i]? = some x := by rwa [List.getElem?_append_left (by rw [← hlen]; exact hi)] at e2
      exact (S.cell i b x e1' e2').gr g fun _ e => e
    · have hi2 : i = w.ι.length := by
        have h1 : i < (w.ι ++ [a]).length := (List.getElem?_eq_some_iff.mp (show (w.ι ++ [a])[i]? = some b from e1)).1
        simp at h1; omega
      subst hi2
      have e3 : (w.ι ++ [a])[w.ι.length]? = some b := e1
      rw [List.getElem?_concat_length] at e3
      rw [hlen, List.getElem?_concat_length] at e2
      cases e3; cases e2
      exact h
end
theorem wipe_get (τ : L2.St) : ∀ (vs : List Nat) (j : Nat), (wipe τ vs)[j]? = if j ∈ vs ∧ j < τ.length then some none else τ[j]?
  | [], j => by simp [wipe]
  | v :: vs, j => by
    unfold wipe
    by_cases h : v = j
    · subst h
      by_cases hl : v < τ.length
      · rw [List.getElem?_set_self (by rw [wipe_length]; exact hl)]
        simp [hl]
      · rw [List.getElem?_eq_none (by simp [wipe_length]; omega)]
        rw [if_neg (by omega), List.getElem?_eq_none (by omega)]
    · rw [List.getElem?_set_ne h, wipe_get τ vs j]
      have : (j ∈ v :: vs ∧ j < τ.length) ↔ (j ∈ vs ∧ j < τ.length) := by simp [Ne.symm h]
      simp only [this]
theorem wipe_same {τ τ1 : L2.St} {tg : List Nat} (hl : τ1.length = (wipe τ tg).length) (h : ∀ j, j ∉ tg → τ1[j]? = (wipe τ tg)[j]?) : wipe τ1 tg = wipe τ tg := by
  rw [wipe_length] at hl
  refine List.ext_getElem? fun j => ?_
  rw [wipe_get, wipe_get, hl]
  split
  · rfl
  · rename_i hj
    by_cases hm : j ∈ tg
    · have : ¬ j < τ.length := fun z => hj ⟨hm, z⟩
      rw [List.getElem?_eq_none (by omega), List.getElem?_eq_none (by omega)]
    · rw [h j hm, wipe_get, if_neg hj]
theorem RepS.wiped {c : Ct} {w : Wd} {H : Hp} {σ : Sl} {τ : L2.St} (h : RepS c w H σ τ) (tg : List Nat) : RepOff c w H tg σ (wipe τ tg) := ⟨by rw [wipe_length]; exact h.len, fun i d hi e => by
  rw [wipe_get, if_neg fun z => hi z.1]
  exact h.at_ i d e⟩
abbrev WF : WX := fun _ _ _ _ => False
def tIfs (c : Ct) (f : Option (Sl → Hh → Out D)) : TT := match f with
  | none => tYes
  | some f => tT c WF f
def condF (f : Option (Sl → Hh → Out D)) : Sl → Hh → Out D := match f with
  | none => fun _ M => .ok (.bl true) M
  | some f => f
theorem tIfs_of {c : Ct} {f : Option (Sl → Hh → Out D)} {τ : L2.St} {H : Hp} {Q : Bool → Hp → Prop} {w : Wd} {M M1 : Hh} {σ : Sl} {b : Bool} (S : Sim c w M H) (RS : RepS c w H σ τ) (e : condF f σ M = .ok (.bl b) M1)
    (h : ∀ w1 H1, Stp w H w1 H1 → Sim c w1 M1 H1 → Q b H1) : tIfs c f τ H Q := by
  cases f with
  | none =>
    cases e
    exact h w H Stp.refl S
  | some f =>
    refine ⟨w, M, σ, S, RS, ?_⟩
    have e' : f σ M = .ok (.bl b) M1 := e
    rw [e']
    intro w1 H1 b' s S1 eb
    cases (show b = b' from eb)
    exact h w1 H1 s S1
theorem bind_ok_inv {α β : Type} {x : Out α} {f : α → Hh → Out β} {y : β} {M : Hh} (h : x.bind f = .ok y M) : ∃ a M1, x = .ok a M1 ∧ f a M1 = .ok y M := by
  cases x with
  | ok a M1 => exact ⟨a, M1, rfl, h⟩
  | exn _ _ _ => cases h
  | bad => cases h
theorem ifB_ok_inv {β : Type} {x : D} {t f : Out β} {y : β} {M : Hh} (h : ifB x .bad t f = .ok y M) : (x = .bl true ∧ t = .ok y M) ∨ (x = .bl false ∧ f = .ok y M) := by
  cases x with
  | bl b => cases b; exact .inr ⟨rfl, h⟩; exact .inl ⟨rfl, h⟩
  | _ => cases h
noncomputable def compE (m : Bool) (tg : List Nat) (k : ItK) (g0 : Sl → Hh → Out (List D)) (cf : Option (Sl → Hh → Out D)) (ef : Sl → Hh → Out D) : Sl → Hh → Out D := fun σ M =>
  (g0 σ M).bind fun vs M1 => match itsD k vs M1 with
    | some (xs, g) => if line < xs.length then .bad else (endG g (compL (fun d => bindTg tg d σ) (condF cf) ef g xs [] M1)).bind fun ys M2 => mkL m ys M2
    | none => .bad
theorem comp_of {c : Ct} {W : WX} {m : Bool} {tg : List Nat} {k : ItK} {g0 : Sl → Hh → Out (List D)} {cf : Option (Sl → Hh → Out D)} {ef : Sl → Hh → Out D} {τ : L2.St} {H : Hp} {Q : VK}
    (h : tE c W (compE m tg k g0 cf ef) τ H Q) : tLc (tI c W k g0) (tG c tg) (tIfs c cf) (tE c WF ef) tg τ H Q := by
  obtain ⟨w, M, σ, S, RS, h⟩ := h
  refine ⟨w, M, σ, S, RS, ?_⟩
  unfold compE at h
  cases e0 : g0 σ M with
  | bad => rw [e0] at h; exact h
  | exn x fs M' => rw [e0] at h; exact h
  | ok vs M1 =>
    rw [e0] at h
    simp only [Out.bind_ok] at h
    show (match itsD k vs M1 with | some (xs, g) => _ | none => False)
    cases e1 : itsD k vs M1 with
    | none => rw [e1] at h; exact h
    | some p =>
      obtain ⟨xs, g⟩ := p
      rw [e1] at h
      simp only at h
      by_cases hz : line < xs.length
      · rw [if_pos hz] at h; exact h.elim
      rw [if_neg hz] at h
      intro w1 H1 J s1 S1 wk D hD
      replace h := OkG.lift h s1
      have RS1 := RS.mono s1
      generalize hr : compL (fun d => bindTg tg d σ) (condF cf) ef g xs [] M1 = r at h
      obtain ⟨ys, Mz, er, hg, hm⟩ : ∃ ys Mz, r = .ok ys Mz ∧ guardOk g Mz ∧ OkG c (Rep c) w1 H1 (mkL m ys Mz) Q (fun cls d H' => W cls d τ H') := by
        cases r with
        | bad => exact h.elim
        | exn x fs M' => exact h.elim
        | ok ys Mz =>
          unfold endG at h
          simp only at h
          split at h
          · rename_i hg; exact ⟨ys, Mz, rfl, hg, h⟩
          · exact h.elim
      subst er
      let Wi : Nat → Nat → Hp → Prop := fun i n H2 => n = xs.length - i ∧ i ≤ xs.length ∧ ∃ w2 M2 acc us, Stp w1 H1 w2 H2 ∧ Sim c (w2.away D) M2 H2 ∧ H2 D = some (.lst us) ∧ RepL c (w2.away D) H2 acc us ∧ acc.length ≤ i ∧
        compL (fun d => bindTg tg d σ) (condF cf) ef g (xs.drop i) acc M2 = .ok ys Mz
      refine ⟨Wi, ⟨xs.length, by simp, Nat.zero_le _, w1, M1, [], [], Stp.laid hD, S1.put hD trivial, upd_same, RepL.nil, Nat.le_refl _, by simpa using hr⟩, ?_⟩
      rintro i n H2 ⟨rfl, hi, w2, M2, acc, us, s2, S2, eD, ra, hal, hc⟩
      have gr2 : Gr w1 H1 (w2.away D) H2 := s2.gr.away hD
      by_cases hlt : i < xs.length
      · right
        have ed : xs.drop i = xs[i] :: xs.drop (i + 1) := List.drop_eq_getElem_cons hlt
        generalize hx : xs[i] = x at ed
        have ex : xs[i]? = some x := by rw [List.getElem?_eq_getElem hlt, hx]
        rw [ed] at hc
        unfold compL at hc
        split at hc
        · rename_i hgd
          split at hc
          · cases hc
          · rename_i σ2 hb
            obtain ⟨b, M3, ec, hc⟩ := bind_ok_inv hc
            obtain ⟨go, yl⟩ := wk.go _ _ _ gr2 S2 hgd i x ex
            refine ⟨go, fun H' => Wi (i + 1) (xs.length - (i + 1)) H', fun H' p => ⟨_, by omega, p⟩, fun v H3 y => ?_⟩
            obtain ⟨s3, S3, rv⟩ := yl v H3 y
            refine ⟨w2.away D, x, σ, σ2, ((RS1.gr gr2).mono s3).wiped tg, rv, hb, fun τ2 RS2 hl ho => ⟨wipe_same hl ho, ?_⟩⟩
            have step : ∀ {b' : Bool} , b = .bl b' → tIfs c cf τ2 H3 fun b H4 => if b = true then tE c WF ef τ2 H4 fun y H5 => ∃ acc, H5 D = some (.lst acc) ∧ acc.length < sizeLine ∧ Wi (i + 1) (xs.length - (i + 1)) (upd H5 D (.lst (acc ++ [y]))) else Wi (i + 1) (xs.length - (i + 1)) H4 := by
              intro b' eb
              subst eb
              refine tIfs_of S3 RS2 ec fun w4 H4 s4 S4 => ?_
              obtain ⟨s34, e34⟩ := s3.un
              have hD3 : H3 D = some (.lst us) := s3.keep D _ eD (S2.av D (.inr rfl)).1
              have hD4 : H4 D = some (.lst us) := s4.keep D _ hD3 (S3.av D (.inr rfl)).1
              obtain ⟨u4, e4⟩ := s4.un
              cases b' with
              | false =>
                simp only [Bool.false_eq_true, if_false]
                rcases ifB_ok_inv hc with ⟨z, _⟩ | ⟨_, hc⟩
                · cases z
                refine ⟨rfl, hlt, ⟨w2.av, w4.ι⟩, M3, acc, us, (s2.trans s34).trans u4, ?_, hD4, ?_, by omega, hc⟩
                · rw [← e4]; exact S4
                · rw [← e4]; exact RepL.mono s4 _ _ (RepL.mono s3 _ _ ra)
              | true =>
                simp only [if_true]
                rcases ifB_ok_inv hc with ⟨_, hc⟩ | ⟨z, _⟩
                · obtain ⟨y, M5, ee, hc⟩ := bind_ok_inv hc
                  refine ⟨w4, M3, σ2, S4, RS2.mono s4, ?_⟩
                  rw [ee]
                  intro w5 H5 v5 s5 S5 r5
                  have s5' : Stp ((⟨w2.av, w4.ι⟩ : Wd).away D) H4 w5 H5 := by rw [← e4]; exact s5
                  obtain ⟨u5, e5⟩ := s5'.un
                  have av4 : w4.av D := by rw [e4]; exact .inr rfl
                  have hD5 : H5 D = some (.lst us) := s5.keep D _ hD4 (S4.av D av4).1
                  have ra5 := RepL.mono s5 _ _ (RepL.mono s4 _ _ (RepL.mono s3 _ _ ra))
                  have ll := ra5.len
                  have av5 : w5.av D := by rw [e5]; exact .inr rfl
                  have hz' : xs.length ≤ sizeLine := Nat.le_of_not_lt hz
                  refine ⟨us, hD5, by omega, rfl, hlt, ⟨w2.av, w5.ι⟩, M5, acc ++ [y], us ++ [v5], (((s2.trans s34).trans u4).trans u5).updAv hD _, ?_, upd_same, ?_, by simp; omega, hc⟩
                  · rw [← e5]; exact S5.updAv av5 trivial
                  · rw [← e5]
                    exact RepL.gr (Gr.updAv av5 _) _ _ (ra5.append (RepL.cons r5 RepL.nil))
                · cases z
            rcases ifB_ok_inv hc with ⟨z, _⟩ | ⟨z, _⟩
            · exact step z
            · exact step z
        · cases hc
      · left
        have e : i = xs.length := by omega
        subst e
        rw [List.drop_length] at hc
        cases hc
        refine ⟨wk.stop _ _ _ gr2 S2 hg _ (Nat.le_refl _), ?_⟩
        have nav : ¬ w2.av D := fun z => by
          rw [s2.av] at z
          obtain ⟨_, o, eo, _⟩ := S1.av D z
          rw [hD] at eo; cases eo
        have nι : D ∉ w2.ι := (S2.av D (.inr rfl)).1
        have hz' : ys.length ≤ sizeLine := Nat.le_trans hal (Nat.le_of_not_lt hz)
        cases m with
        | false =>
          exact hm w2 H2 _ s2 S2.back (rep_lst.mpr ⟨D, us, rfl, .inl ⟨fun z => z.elim nι nav, .inl eD⟩, hz', RepL.gr Gr.back _ _ ra⟩)
        | true =>
          have hl : w2.ι.length = Mz.length := S2.len
          refine hm (w2.push D) H2 _ ?_ (S2.adopt nav ⟨us, eD, hz', RepL.gr Gr.adopt _ _ ra⟩) (rep_ref.mpr ⟨D, rfl, ?_⟩)
          · obtain ⟨new, e1, e2⟩ := s2.ι
            refine ⟨s2.av, ⟨new ++ [D], by simp [Wd.push, e1], fun a ha => ?_⟩, s2.keep, s2.live, s2.frz⟩
            rcases List.mem_append.mp ha with z | z
            · exact e2 a z
            · have : a = D := by simpa using z
              rw [this]; exact hD
          · show (w2.ι ++ [D])[Mz.length]? = some D
            rw [← hl]
            exact List.getElem?_concat_length
end Fw
namespace Fw
open PySem PySem.Spec PyProof.Rows L2
section
variable {c : Ct} {W : WX} {X : Cx}
def tPt (c : Ct) (W : WX) (absent : Bool) (f : Sl → Hh → Out D) : TO := fun τ H Q => ∃ w M σ, Sim c w M H ∧ RepS c w H σ τ ∧ OkG c (fun w H d o => d = optD o) w H (partD absent (f σ M)) Q (fun cls d H' => W cls d τ H')
theorem _root_.L2.PO.weak {X : Cx} {e : Option Expr} {t t' : TO} (h : PO X e t) (k : ∀ τ H Q, t' τ H Q → t τ H Q) : PO X e t' := ⟨fun pins s τ H Q I q => h.run pins s τ H Q I (k _ _ _ q)⟩
theorem l_part {e : Option Expr} {a : E} {f : Sl → Hh → Out D} (h : match e with | none => isLN a = true ∧ f = (fun _ M => .ok .non M) | some x => isLN a = false ∧ PE X x (tE c W f)) : PO X e (tPt c W (isLN a) f) := by
  cases e with
  | none =>
    obtain ⟨h1, h2⟩ := h
    rw [h1, h2]
    refine po_none.weak fun τ H Q ⟨w, M, σ, S, RS, h⟩ => ?_
    exact h w H none Stp.refl S rfl
  | some x =>
    obtain ⟨h1, h2⟩ := h
    rw [h1]
    refine (po_some h2).weak fun τ H Q ⟨w, M, σ, S, RS, h⟩ => ?_
    refine (nxt (R := fun w H d o => d = optD o) S RS h).imp fun v H1 ⟨w1, M1, d, s, S1, RS1, r, q⟩ => ?_
    cases d with
    | int i =>
      rw [rep_int] at r
      exact ⟨i, r, q w1 H1 (some i) Stp.refl S1 rfl⟩
    | _ => exact q.elim
theorem nxtP {β δ : Type} {τ : L2.St} {w : Wd} {M : Hh} {H : Hp} {σ : Sl} {ab : Bool} {R : Wd → Hp → β → δ → Prop} {g : Sl → Hh → Out D} {f : D → Hh → Out β} {Q : δ → Hp → Prop} (S : Sim c w M H) (RS : RepS c w H σ τ)
    (h : OkG c R w H ((partD ab (g σ M)).bind f) Q (fun cls d H' => W cls d τ H')) :
    tPt c W ab g τ H fun o H1 => ∃ w1 M1, Stp w H w1 H1 ∧ Sim c w1 M1 H1 ∧ RepS c w1 H1 σ τ ∧ OkG c R w1 H1 (f (optD o) M1) Q (fun cls d H' => W cls d τ H') :=
  ⟨w, M, σ, S, RS, (OkG.bind (R' := fun w H d o => d = optD o) h).imp (fun v H1 ⟨w1, M1, d, s, S1, r, q⟩ => by
    cases (show d = optD v from r)
    exact ⟨w1, M1, s, S1, RS.mono s, q⟩) fun _ _ _ z => z⟩
theorem tPt.imp {ab : Bool} {f : Sl → Hh → Out D} {τ : L2.St} {H : Hp} {Q Q' : Option Int → Hp → Prop} (h : tPt c W ab f τ H Q) (q : ∀ v H', Q v H' → Q' v H') : tPt c W ab f τ H Q' := by
  obtain ⟨w, M, σ, S, RS, h⟩ := h
  exact ⟨w, M, σ, S, RS, h.imp q fun _ _ _ z => z⟩
theorem l_sl {x : Expr} {lo hi : Option Expr} {p2 pos : Pos} {a b : E} {m : Bool} {f g p : Sl → Hh → Out D} (hK : X.K = c.K) (hx : PE X x (tE c W f))
    (hl : match lo with | none => isLN a = true ∧ g = (fun _ M => .ok .non M) | some x => isLN a = false ∧ PE X x (tE c W g)) (hh : match hi with | none => isLN b = true ∧ p = (fun _ M => .ok .non M) | some x => isLN b = false ∧ PE X x (tE c W p)) :
    PE X (.Subscript x (.Slice lo hi none p2) pos) (tE c W fun σ M => (f σ M).bind fun x M1 => (partD (isLN a) (g σ M1)).bind fun l M2 => (partD (isLN b) (p σ M2)).bind fun h M3 => slD m x l h M3) := by
  refine (pe_slice (op_sl (c := c) hK m) hx (l_part hl) (l_part hh)).weak fun τ H Q ⟨w, M, σ, S, RS, h⟩ => ?_
  refine (nxt S RS h).imp fun v H1 ⟨w1, M1, d, s, S1, RS1, r, q⟩ => ?_
  refine (nxtP S1 RS1 q).imp fun o H2 ⟨w2, M2, s2, S2, RS2, q2⟩ => ?_
  refine (nxtP S2 RS2 q2).imp fun o3 H3 ⟨w3, M3, s3, S3, RS3, q3⟩ => ?_
  exact ⟨w3, M3, d, _, S3, Rep.mono s3 _ _ (Rep.mono s2 _ _ r), q3⟩
theorem isi_of {P : Pg} {T : List Ty} {f : Sl → Hh → Out D} {τ : L2.St} {H : Hp} {Q : VK} (h : tE c W (fun σ M => (f σ M).bind fun x M1 => outB (isTys P M1 x T) M1) τ H Q) :
    tE c W f τ H fun v H1 => ∃ w1 M1 d b, Sim c w1 M1 H1 ∧ Rep c w1 H1 d v ∧ isTys P M1 d T = some b ∧ (∀ H2, (∀ a o, H1 a = some o → H2 a = some o) → Stp w1 H1 w1 H2 → Sim c w1 M1 H2 → Q (.bl b) H2) := by
  obtain ⟨w, M, σ, S, RS, h⟩ := h
  refine (nxt S RS h).imp fun v H1 ⟨w1, M1, d, s, S1, RS1, r, q⟩ => ?_
  cases hk : isTys P M1 d T with
  | none => rw [hk] at q; exact q.elim
  | some b =>
    rw [hk] at q
    exact ⟨w1, M1, d, b, S1, r, hk, fun H2 _ s2 S2 => q w1 H2 _ s2 S2 (rep_bl.mpr rfl)⟩
theorem l_isi1 {P : Pg} {ok : Nat → Bool} {T : Ty} {e e2 : Expr} {p pos : Pos} {f : Sl → Hh → Out D} (hK : X.K = c.K) (KK : KitOk c P ok) (hT : okTy ok T = true) (hg : Gl X "isinstance") (hm : X.mg "isinstance" = none) (he : PE X e (tE c W f)) (ht : PE X e2 (tC (tyVV c T))) (hs : notStar e = true) (hs2 : notStar e2 = true) :
    PE X (.Call (.Name "isinstance" p) [e, e2] [] pos) (tE c W fun σ M => (f σ M).bind fun x M1 => outB (isTys P M1 x [T]) M1) := by
  have ha := pa_cons he (pa_cons ht pa_nil (star_eq hs2)) (star_eq hs)
  have hv : bootBuiltins "isinstance" = some (.builtin "isinstance") := by decide +kernel
  refine (pe_callB (op_isi1 (X := X) hK KK T hT) hg hm hv ha (by decide) (by decide) (star_eq hs) (star_any (by simp [hs2]))).weak fun τ H Q h => ?_
  refine (isi_of h).imp fun v H1 ⟨w1, M1, d, b, S1, r, hk, q⟩ => ?_
  exact ⟨w1, M1, d, v, b, S1, r, rfl, hk, q H1 (fun _ _ z => z) Stp.refl S1⟩
theorem pa_tys {es : List Expr} {ts : List Ty} (h : Paired (fun e t => notStar e = true ∧ PE X e (tC (tyVV c t))) es ts) : PA X es (fun τ H Q => Q (ts.map (tyVV c)) H) := by
  induction h with
  | nil => exact pa_nil
  | cons p _ ih => exact pa_cons p.2 ih (star_eq p.1)
theorem l_isiN {P : Pg} {ok : Nat → Bool} {ts : List Ty} {e : Expr} {es : List Expr} {p pos p2 : Pos} {kk : Nat} {f : Sl → Hh → Out D} (hK : X.K = c.K) (KK : KitOk c P ok) (hT : ts.all (okTy ok) = true) (hne : ts ≠ []) (hz : ts.length ≤ 1000) (hg : Gl X "isinstance") (hm : X.mg "isinstance" = none) (he : PE X e (tE c W f))
    (ht : Paired (fun e t => notStar e = true ∧ PE X e (tC (tyVV c t))) es ts) (hs : notStar e = true) :
    PE X (.Call (.Name "isinstance" p) [e, .Tuple es kk p2] [] pos) (tE c W fun σ M => (f σ M).bind fun x M1 => outB (isTys P M1 x ts) M1) := by
  have ha := pa_cons he (pa_cons (pe_tup (x1 := kk) (pos := p2) (pa_tys ht)) pa_nil (star_eq rfl)) (star_eq hs)
  have hv : bootBuiltins "isinstance" = some (.builtin "isinstance") := by decide +kernel
  refine (pe_callB (op_isiN (X := X) hK KK ts hT hne) hg hm hv ha (by decide) (by decide) (star_eq hs) rfl).weak fun τ H Q h => ?_
  refine (isi_of h).imp fun v H1 ⟨w1, M1, d, b, S1, r, hk, q⟩ => ?_
  refine ⟨by rw [List.length_map, sizeLine_eq]; omega, fun a ha => ?_⟩
  have s : Stp w1 H1 w1 (upd H1 a (.tup (ts.map (tyVV c)))) := Stp.laid ha
  exact ⟨w1, M1, d, v, b, a, S1.laid ha, Rep.mono s _ _ r, rfl, upd_same, hk, q _ (fun b o hb => by rw [upd_ne (fun z => by rw [z, ha] at hb; cases hb)]; exact hb) s (S1.laid ha)⟩
def kindT : BmK → String
  | .lst => "list" | .str => "str" | .dic => "dict" | .int => "int" | .tup => "tuple"
theorem bmOk_ty {b : Bm} {w : Wd} {M : Hh} {H : Hp} {d : D} {v : V} (hK : X.K = c.K) (S : Sim c w M H) (r : Rep c w H d v) (h : bmOk b d M = true) : tyM X.K (kindT (bmK b)) v H := by
  unfold bmOk at h
  split at h
  · rename_i e
    obtain ⟨xs, e2⟩ := Option.isSome_iff_exists.mp h
    obtain ⟨a, vs, rfl, q, _⟩ := lstOf_ok S e2 r
    rw [e, hK]
    exact .inl (.inl ⟨rfl, vs, q⟩)
  · rename_i e
    obtain ⟨⟨t, ks, vs⟩, e2⟩ := Option.isSome_iff_exists.mp h
    obtain ⟨i, a, rfl, rfl, hi, hM, hO⟩ := dicOf_ok S e2 r
    rw [e]
    obtain ⟨_, _, hh⟩ := hO
    cases t with
    | one => obtain ⟨kvs, e, _⟩ := hh; exact .inl (.inr (.inr (.inl ⟨rfl, .inl ⟨kvs, e⟩⟩)))
    | tup => obtain ⟨kvs, xs, e, _⟩ := hh; exact .inr (.inl ⟨rfl, a, xs, rfl, e⟩)
    | two => obtain ⟨kvs, e, _⟩ := hh; exact .inl (.inr (.inr (.inl ⟨rfl, .inr ⟨kvs, e⟩⟩)))
  · rename_i e
    rw [e]
    split at h
    · rw [rep_str] at r; obtain ⟨rfl, _⟩ := r; exact .inl rfl
    · cases h
  · rename_i e
    rw [e]
    split at h
    · rw [rep_int] at r; subst r; exact .inl rfl
    · cases h
  · rename_i e
    obtain ⟨xs, e2⟩ := Option.isSome_iff_exists.mp h
    obtain ⟨a, o, ns, rfl, _, e3, e4, _⟩ := tupcOf_ok e2 r
    rw [e]
    exact .inr (.inr ⟨rfl, a, o, _, rfl, e3, e4⟩)
theorem l_bm {b : Bm} {m : Bool} {name : Str} {id : String} {o e : Expr} {es : List Expr} {apos cpos : Pos} {f : Sl → Hh → Out D} {g : Sl → Hh → Out (List D)} (hK : X.K = c.K) (pa : PlainAttrs (kindT (bmK b))) (slot : Slot (kindT (bmK b)) name id) (hty : typeOf (.builtin id) = pure (.type "method_descriptor"))
    (hm : MtR X id (rVm c (bmD m b))) (ho : PE X o (tE c W f)) (ha : PA X (e :: es) (tL c W g)) (hb : plainBase o = true) (hl : (apos.endLine == cpos.line) = true) (hs : notStar e = true) (hss : es.all notStar = true) (hlen : es.length < 20) :
    PE X (.Call (.Attribute o name apos) (e :: es) [] cpos) (tE c W fun σ M => (f σ M).bind fun x M1 => if bmOk b x M1 then (g σ M1).bind fun ds M2 => bmD m b x ds M2 else .bad) := by
  have few : ((backTo cpos (starEach (e :: es) X.env)).all (fun x => !x.1) && (backToKw cpos (keywordEach [] X.env)).all (fun x => x.1.isSome)
      && decide ((e :: es).length + ([] : List Keyword).length + (if ([] : List Keyword).isEmpty then 0 else 1) < 30)) = true := by
    rw [star_all (by simp [hs]; simpa using hss)]
    show (true && true && decide (es.length + 1 + 0 + 0 < 30)) = true
    simp; omega
  refine (pe_mm pa slot hty hm ho ha (base_eq hb) few hl (star_eq hs) (star_any hss)).weak fun τ H Q ⟨w, M, σ, S, RS, h⟩ => ?_
  refine (nxt S RS h).imp fun v H1 ⟨w1, M1, d, s, S1, RS1, r, q⟩ => ?_
  split at q
  · rename_i hk
    refine ⟨bmOk_ty hK S1 r hk, ?_⟩
    exact (nxtL S1 RS1 q).imp fun vs H2 ⟨w2, M2, ds, s2, S2, RS2, r2, q2⟩ => ⟨w2, M2, d, ds, _, S2, Rep.mono s2 _ _ r, r2, q2⟩
  · exact q.elim
theorem l_bm0 {b : Bm} {m : Bool} {name : Str} {id : String} {o : Expr} {apos cpos : Pos} {f : Sl → Hh → Out D} (hK : X.K = c.K) (pa : PlainAttrs (kindT (bmK b))) (slot : Slot (kindT (bmK b)) name id) (hty : typeOf (.builtin id) = pure (.type "method_descriptor"))
    (hm : MtR X id (rVm c (bmD m b))) (ho : PE X o (tE c W f)) (hb : plainBase o = true) (hl : (apos.endLine == cpos.line) = true) :
    PE X (.Call (.Attribute o name apos) [] [] cpos) (tE c W fun σ M => (f σ M).bind fun x M1 => if bmOk b x M1 then (Out.ok [] M1).bind fun ds M2 => bmD m b x ds M2 else .bad) := by
  refine (pe_mm0 pa slot hty hm ho (base_eq hb) hl).weak fun τ H Q ⟨w, M, σ, S, RS, h⟩ => ?_
  refine (nxt S RS h).imp fun v H1 ⟨w1, M1, d, s, S1, RS1, r, q⟩ => ?_
  split at q
  · rename_i hk
    exact ⟨bmOk_ty hK S1 r hk, w1, M1, d, [], _, S1, r, RepL.nil, q⟩
  · exact q.elim
def spF (c : Ct) (Φ : Orc) (f : Nat) : Sp := fun vs H Q E => ∃ w M ds, Sim c w M H ∧ RepL c w H ds vs ∧ OkG c (Rep c) w H (Φ f ds M) Q E
theorem snapRep {w w2 : Wd} {M : Hh} {H : Hp} (S : Sim c w2 M H) (k : ∀ a, ¬ w2.mu a → ¬ w.mu a) (ki : ∀ a, a ∈ w2.ι → ¬ w.mu a) : ∀ (n : Nat) (d : D) (v : V), noRef (snap M n d) = true → Rep c w2 H d v → Rep c w H (snap M n d) v := by
  have g : Gk w2 H w H := fun a o h n => ⟨k a n, h⟩
  have lst : ∀ n, (∀ (d : D) (v : V), noRef (snap M n d) = true → Rep c w2 H d v → Rep c w H (snap M n d) v) → ∀ (xs : List D) (vs : List V), noRefL (xs.map (snap M n)) = true → RepL c w2 H xs vs → RepL c w H (xs.map (snap M n)) vs := by
    intro n ih xs
    induction xs with
    | nil => intro vs _ r; simpa [RepL] using r
    | cons x xs ihx =>
      intro vs z r
      obtain ⟨v, q, rfl, r1, r2⟩ := r.uncons
      simp only [List.map_cons, noRefL, Bool.and_eq_true] at z
      exact RepL.cons (ih x v z.1 r1) (ihx q z.2 r2)
  intro n
  induction n with
  | zero => intro d v z r; exact Rep.nr g d v z r
  | succ n ih =>
    intro d v z r
    cases d with
    | ref i =>
      obtain ⟨a, rfl, hi⟩ := rep_ref.mp r
      cases hM : M[i]? with
      | none => simp [snap, hM, noRef] at z
      | some mo =>
        cases mo with
        | lst xs =>
          obtain ⟨vs, e2, l, rr⟩ := S.cell i a (.lst xs) hi hM
          simp only [snap, hM, noRef] at z ⊢
          exact rep_lst.mpr ⟨a, vs, rfl, .inl ⟨ki a (List.mem_of_getElem? hi), .inl e2⟩, by rw [List.length_map]; exact l, lst n ih xs vs z rr⟩
        | dic _ _ _ => simp [snap, hM, noRef] at z
        | lck _ _ => simp [snap, hM, noRef] at z
        | obj _ _ => simp [snap, hM, noRef] at z
    | tup xs =>
      obtain ⟨a, vs, rfl, q, l, rr⟩ := rep_tup.mp r
      simp only [snap, noRef] at z ⊢
      exact rep_tup.mpr ⟨a, vs, rfl, q.gk g, by rw [List.length_map]; exact l, lst n ih xs vs z rr⟩
    | lst xs =>
      obtain ⟨a, vs, rfl, q, l, rr⟩ := rep_lst.mp r
      simp only [snap, noRef] at z ⊢
      exact rep_lst.mpr ⟨a, vs, rfl, q.gk g, by rw [List.length_map]; exact l, lst n ih xs vs z rr⟩
    | _ => exact Rep.nr g _ v z r
theorem own_call {Φ : Orc} {f : Nat} {w : Wd} {M : Hh} {H : Hp} {ds : List D} {vs : List V} {Q : VK} {E : XK} (S : Sim c w M H) (r : RepL c w H ds vs) (h : OkG c (Rep c) w H (if noRefL ds = true then ownD (Φ f ds []) M else .bad) Q E) : spF c Φ f vs H Q E := by
  split at h
  · rename_i hz
    have gk : Gk w H ⟨w.mu, []⟩ H := fun a o ha n => ⟨fun m => m.elim (fun z => nomatch z) n, ha⟩
    refine ⟨⟨w.mu, []⟩, [], ds, ⟨rfl, .nil, fun a ha => ⟨by simp, S.mu_some ha⟩, fun i a mo e _ => by simp at e, fun k d e => ⟨(S.gl k d e).1, Rep.nr gk _ _ (S.gl k d e).1 (S.gl k d e).2⟩⟩, RepL.nr gk _ _ hz r, ?_⟩
    have back : ∀ {w2 : Wd} {M' : Hh} {H2 : Hp}, Stp (⟨w.mu, []⟩ : Wd) H w2 H2 → Sim c w2 M' H2 → Stp w H w H2 ∧ Sim c w M H2 ∧ (∀ a, ¬ w2.mu a → ¬ w.mu a) ∧ (∀ a, a ∈ w2.ι → ¬ w.mu a) := by
      intro w2 M' H2 s S2
      have keep : ∀ b o, H b = some o → H2 b = some o := fun b o e => s.keep b o e (by simp)
      have s0 : Stp w H w H2 := ⟨rfl, ⟨[], by simp, by simp⟩, fun b o e _ => keep b o e, s.live, fun b o u e => keep b _ e⟩
      refine ⟨s0, S.mono s0 fun a _ o e => keep a o e, fun a n m => n (.inr (by rw [s.av]; exact m)), fun a hi m => ?_⟩
      exact (S2.av a (by rw [s.av]; exact m)).1 hi
    cases e : Φ f ds [] with
    | bad => rw [e] at h; exact h
    | ok d M' =>
      rw [e] at h
      intro w2 H2 v s S2 rv
      obtain ⟨s0, S0, k1, k2⟩ := back s S2
      unfold ownD at h
      simp only at h
      split at h
      · rename_i hn
        exact h w H2 v s0 S0 (snapRep S2 k1 k2 8 d v hn rv)
      · exact h.elim
    | exn x fs M' =>
      rw [e] at h
      intro w2 H2 dd s S2 rx
      obtain ⟨s0, S0, k1, k2⟩ := back s S2
      unfold ownD at h
      simp only at h
      split at h
      · rename_i hn
        exact h w H2 dd s0 S0 (RepX.nr (fun a o ha n => ⟨k1 a n, ha⟩) _ _ hn rx)
      · exact h.elim
  · exact h.elim
structure Sh (n : Nat) (w : Wd) (H : Hp) (w' : Wd) (H' : Hp) : Prop where
  keep : ∀ (a : Addr) (o : HO), H a = some o → ¬ w.mu a → ¬ w'.mu a ∧ H' a = some o
  ix : ∀ (i : Nat) (a : Addr), w.ι[i]? = some a → w'.ι[n + i]? = some a
theorem shL_len (n : Nat) : ∀ xs : List D, (shL n xs).length = xs.length
  | [] => rfl
  | x :: xs => by simp [shL, shL_len n xs]
mutual
theorem Rep.sh {n : Nat} {w w1 : Wd} {H H1 : Hp} (s : Sh n w H w1 H1) : ∀ (d : D) (v : V), Rep c w H d v → Rep c w1 H1 (shD n d) v
  | .non, v, h => by simpa [Rep, shD] using h
  | .bl _, v, h => by simpa [Rep, shD] using h
  | .int _, v, h => by simpa [Rep, shD] using h
  | .str _, v, h => by simpa [Rep, shD] using h
  | .cls _, v, h => by simpa [Rep, shD] using h
  | .dic _ _, v, h => by
    simp only [Rep, shD] at h ⊢
    obtain ⟨e, a, o, ns, e1, n, q, d, e2⟩ := h
    exact ⟨e, a, o, ns, e1, (s.keep a _ q n).1, (s.keep a _ q n).2, d, e2⟩
  | .ref i, v, h => by
    simp only [Rep, shD] at h ⊢
    obtain ⟨a, e, h⟩ := h
    exact ⟨a, e, s.ix _ _ h⟩
  | .tup xs, v, h => by
    simp only [Rep, shD] at h ⊢
    obtain ⟨a, vs, e, q, z, r⟩ := h
    exact ⟨a, vs, e, q.gk s.keep, by rw [shL_len]; exact z, RepL.sh s xs vs r⟩
  | .lst xs, v, h => by
    simp only [Rep, shD] at h ⊢
    obtain ⟨a, vs, e, q, z, r⟩ := h
    exact ⟨a, vs, e, q.gk s.keep, by rw [shL_len]; exact z, RepL.sh s xs vs r⟩
  | .exc x fs, v, h => by
    simp only [Rep, shD] at h ⊢
    obtain ⟨a, dd, e, n, q, r⟩ := h
    exact ⟨a, dd, e, (s.keep a _ q n).1, (s.keep a _ q n).2, RepX.sh s fs dd r⟩
theorem RepL.sh {n : Nat} {w w1 : Wd} {H H1 : Hp} (s : Sh n w H w1 H1) : ∀ (ds : List D) (vs : List V), RepL c w H ds vs → RepL c w1 H1 (shL n ds) vs
  | [], vs, h => by simpa [RepL, shL] using h
  | d :: ds, vs, h => by
    simp only [RepL, shL] at h ⊢
    obtain ⟨v, r, e, h1, h2⟩ := h
    exact ⟨v, r, e, Rep.sh s d v h1, RepL.sh s ds r h2⟩
theorem RepX.sh {n : Nat} {w w1 : Wd} {H H1 : Hp} (s : Sh n w H w1 H1) : ∀ (fs : List D) (dd : Option Addr), RepX c w H fs dd → RepX c w1 H1 (shL n fs) dd
  | [], dd, h => by simpa [RepX, shL] using h
  | d :: ds, dd, h => by
    simp only [RepX, shL] at h ⊢
    obtain ⟨e, a, v, e2, n, h1, h2⟩ := h
    subst e
    exact ⟨rfl, a, v, e2, (s.keep a _ h1 n).1, (s.keep a _ h1 n).2, Rep.sh s d v h2⟩
end
theorem shF_1 (n : Nat) : ∀ fs : List (Nat × D), (shF n fs).map (·.1) = fs.map (·.1)
  | [] => rfl
  | (f, d) :: r => by simp [shF, shF_1 n r]
theorem shF_2 (n : Nat) : ∀ fs : List (Nat × D), (shF n fs).map (·.2) = shL n (fs.map (·.2))
  | [] => rfl
  | (f, d) :: r => by simp [shF, shL, shF_2 n r]
theorem shL_nr (n : Nat) : ∀ ds : List D, noRefL ds = true → shL n ds = ds := by
  have go : ∀ d : D, noRef d = true → shD n d = d := by
    intro d
    exact D.rec (motive_1 := fun d => noRef d = true → shD n d = d) (motive_2 := fun ds => noRefL ds = true → shL n ds = ds)
      (fun _ => rfl) (fun _ _ => rfl) (fun _ _ => rfl) (fun _ _ => rfl)
      (fun xs ih h => by simp only [shD]; rw [ih (by simpa [noRef] using h)])
      (fun xs ih h => by simp only [shD]; rw [ih (by simpa [noRef] using h)])
      (fun i h => by simp [noRef] at h)
      (fun c fs ih h => by simp only [shD]; rw [ih (by simpa [noRef] using h)])
      (fun _ _ _ _ _ => rfl) (fun _ _ => rfl) (fun _ => rfl)
      (fun x xs h1 h2 h => by
        simp only [noRefL, Bool.and_eq_true] at h
        simp only [shL]; rw [h1 h.1, h2 h.2]) d
  intro ds
  induction ds with
  | nil => exact fun _ => rfl
  | cons x xs ih =>
    intro h
    simp only [noRefL, Bool.and_eq_true] at h
    simp only [shL]; rw [go x h.1, ih h.2]
theorem RepO.sh {n : Nat} {w w1 : Wd} {H H1 : Hp} (s : Sh n w H w1 H1) (k0 : H = H1) {a : Addr} {mo : MO} (h : RepO c w H a mo) : RepO c w1 H1 a (shO n mo) := by
  have hH : H = H1 := k0
  subst hH
  have g : Gk w H w1 H := s.keep
  have nk : ∀ ks : List Key, noRefL (ks.map kD) = true := by
    intro ks
    induction ks with
    | nil => rfl
    | cons k ks ih =>
      simp only [List.map_cons, noRefL, ih, Bool.and_true]
      cases k <;> rfl
  cases mo with
  | lst xs =>
    obtain ⟨vs, e, z, r⟩ := h
    exact ⟨vs, e, by rw [shL_len]; exact z, RepL.sh s _ _ r⟩
  | dic t ks vs =>
    obtain ⟨l, z, h⟩ := h
    refine ⟨by rw [shL_len]; exact l, z, ?_⟩
    cases t with
    | one =>
      obtain ⟨kvs, e, n, e2, r1, r2⟩ := h
      refine ⟨kvs, e, n, e2, RepL.nr g _ _ ?_ r1, RepL.sh s _ _ r2⟩
      have := nk (kvs.map (·.1))
      rw [List.map_map] at this
      rw [e2]
      exact this
    | tup =>
      obtain ⟨kvs, xs, e, sm, kn, n, ki, e2, r1, r2⟩ := h
      exact ⟨kvs, xs, e, sm, kn, n, ki, e2, fun q hq => Rep.nr g _ _ (nk _) (r1 q hq), RepL.sh s _ _ r2⟩
    | two =>
      obtain ⟨kvs, e, n, e2, r1, r2⟩ := h
      exact ⟨kvs, e, n, e2, fun p hp => ⟨(r1 p hp).1, RepL.nr g _ _ (nk _) (r1 p hp).2⟩, RepL.sh s _ _ r2⟩
  | lck ks vs =>
    obtain ⟨l, z, o, kvs, e, n, e2, r1, r2⟩ := h
    refine ⟨by rw [shL_len]; exact l, z, o, kvs, e, n, e2, RepL.nr g _ _ ?_ r1, RepL.sh s _ _ r2⟩
    have := nk (kvs.map (·.1))
    rw [List.map_map] at this
    rw [e2]
    exact this
  | obj x fs =>
    obtain ⟨dx, fv, e, k1, k2, r⟩ := h
    refine ⟨dx, fv, e, ?_, ?_, ?_⟩
    · rw [k1]
      have := shF_1 n fs
      have e1 : fs.map (fun p => c.an p.1) = (fs.map (·.1)).map c.an := by rw [List.map_map]; rfl
      have e2 : (shF n fs).map (fun p => c.an p.1) = ((shF n fs).map (·.1)).map c.an := by rw [List.map_map]; rfl
      rw [e1, e2, this]
    · intro p hp
      have : p.1 ∈ (shF n fs).map (·.1) := List.mem_map_of_mem hp
      rw [shF_1] at this
      obtain ⟨q, hq, e⟩ := List.mem_map.mp this
      rw [← e]
      exact k2 q hq
    · rw [shF_2]
      exact RepL.sh s _ _ r
theorem adopt_call {Φ : Orc} {f : Nat} {w : Wd} {M : Hh} {H : Hp} {ds : List D} {vs : List V} {Q : VK} {E : XK} (S : Sim c w M H) (r : RepL c w H ds vs) (h : OkG c (Rep c) w H (if noRefL ds = true then adoptD (Φ f ds []) M else .bad) Q E) : spF c Φ f vs H Q E := by
  split at h
  · rename_i hz
    have gk : Gk w H ⟨w.mu, []⟩ H := fun a o ha n => ⟨fun m => m.elim (fun z => nomatch z) n, ha⟩
    refine ⟨⟨w.mu, []⟩, [], ds, ⟨rfl, .nil, fun a ha => ⟨by simp, S.mu_some ha⟩, fun i a mo e _ => by simp at e, fun k d e => ⟨(S.gl k d e).1, Rep.nr gk _ _ (S.gl k d e).1 (S.gl k d e).2⟩⟩, RepL.nr gk _ _ hz r, ?_⟩
    have back : ∀ {w2 : Wd} {M' : Hh} {H2 : Hp}, Stp (⟨w.mu, []⟩ : Wd) H w2 H2 → Sim c w2 M' H2 → Stp w H w H2 ∧ Sim c w M H2 ∧ (∀ a, ¬ w2.mu a → ¬ w.mu a) ∧ (∀ a, a ∈ w2.ι → ¬ w.mu a) := by
      intro w2 M' H2 s S2
      have keep : ∀ b o, H b = some o → H2 b = some o := fun b o e => s.keep b o e (by simp)
      have s0 : Stp w H w H2 := ⟨rfl, ⟨[], by simp, by simp⟩, fun b o e _ => keep b o e, s.live, fun b o u e => keep b _ e⟩
      refine ⟨s0, S.mono s0 fun a _ o e => keep a o e, fun a n m => n (.inr (by rw [s.av]; exact m)), fun a hi m => ?_⟩
      exact (S2.av a (by rw [s.av]; exact m)).1 hi
    cases e : Φ f ds [] with
    | bad => rw [e] at h; exact h
    | ok d M' =>
      rw [e] at h
      intro w2 H2 v s S2 rv
      obtain ⟨s0, S0, k1, k2⟩ := back s S2
      unfold adoptD at h
      simp only at h
      have keep : ∀ b o, H b = some o → H2 b = some o := fun b o e => s.keep b o e (by simp)
      have new : ∀ a ∈ w2.ι, H a = none := by
        obtain ⟨nw, e1, e2⟩ := s.ι
        intro a ha
        rw [e1] at ha
        exact e2 a (by simpa using ha)
      have av2 : w2.av = w.mu := s.av
      let w3 : Wd := ⟨w.av, w.ι ++ w2.ι⟩
      have mu3 : ∀ a, w3.mu a → w2.mu a := by
        intro a m
        rcases m with m | m
        · rcases List.mem_append.mp m with m | m
          · exact .inr (by rw [av2]; exact .inl m)
          · exact .inl m
        · exact .inr (by rw [av2]; exact .inr m)
      have sh : Sh M.length w2 H2 w3 H2 := ⟨fun a o ha n => ⟨fun m => n (mu3 a m), ha⟩, fun i a hi => by
        show (w.ι ++ w2.ι)[M.length + i]? = some a
        rw [List.getElem?_append_right (by rw [S.len]; omega), S.len, Nat.add_sub_cancel_left]
        exact hi⟩
      have st3 : Stp w H w3 H2 := ⟨rfl, ⟨w2.ι, rfl, new⟩, fun b o e _ => keep b o e, s.live, fun b o u e => keep b _ e⟩
      refine h w3 H2 v st3 ⟨?_, ?_, ?_, ?_, ?_⟩ (Rep.sh sh d v rv)
      · show (w.ι ++ w2.ι).length = _
        rw [List.length_append, List.length_append, List.length_map, S.len, S2.len]
      · refine List.nodup_append.mpr ⟨S.nd, S2.nd, fun a ha b hb hab => ?_⟩
        subst hab
        exact k2 a hb (.inl ha)
      · intro a ha
        obtain ⟨n1, o, ho, hm⟩ := S.av a ha
        refine ⟨fun m => ?_, o, keep a o ho, hm⟩
        rcases List.mem_append.mp m with m | m
        · exact n1 m
        · rw [new a m] at ho; cases ho
      · intro i a mo hi hM
        have hi : (w.ι ++ w2.ι)[i]? = some a := hi
        by_cases hl : i < w.ι.length
        · rw [List.getElem?_append_left hl] at hi
          rw [List.getElem?_append_left (by rw [← S.len]; exact hl)] at hM
          exact RepO.gr st3.gr (S.cell i a mo hi hM) (keep a)
        · rw [List.getElem?_append_right (by omega)] at hi
          rw [List.getElem?_append_right (by rw [← S.len]; omega), List.getElem?_map] at hM
          cases hq : M'[i - M.length]? with
          | none => rw [hq] at hM; cases hM
          | some mo' =>
            rw [hq] at hM
            cases hM
            rw [S.len] at hi
            exact RepO.sh sh rfl (S2.cell _ a mo' hi hq)
      · intro k d' hk
        obtain ⟨g1, g2⟩ := S2.gl k d' hk
        exact ⟨g1, Rep.nr (fun a o ha n => sh.keep a o ha n) _ _ g1 g2⟩
    | exn x fs M' =>
      rw [e] at h
      intro w2 H2 dd s S2 rx
      obtain ⟨s0, S0, k1, k2⟩ := back s S2
      unfold adoptD at h
      simp only at h
      split at h
      · rename_i hn
        exact h w H2 dd s0 S0 (RepX.nr (fun a o ha n => ⟨k1 a n, ha⟩) _ _ hn rx)
      · exact h.elim
  · exact h.elim
noncomputable def callAE (Φ : Orc) (f : Nat) (g : Sl → Hh → Out (List D)) : Sl → Hh → Out D := fun σ M => (g σ M).bind fun ds M1 => if noRefL ds then adoptD (Φ f ds []) M1 else .bad
theorem callA_of {Φ : Orc} {f : Nat} {g : Sl → Hh → Out (List D)} {τ : L2.St} {H : Hp} {Q : VK} (h : tE c W (callAE Φ f g) τ H Q) : tCallS (spF c Φ f) (fun τ cls d H' => W cls d τ H') (tL c W g) τ H Q := by
  obtain ⟨w, M, σ, S, RS, h⟩ := h
  exact (nxtL S RS h).imp fun vs H1 ⟨w1, M1, ds, s, S1, RS1, r, q⟩ => adopt_call S1 r q
structure Sl2 (n : Nat) (w : Wd) (H : Hp) (w' : Wd) : Prop where
  keep : ∀ (a : Addr) (o : HO), H a = some o → (∀ xs, o ≠ .lst xs) → ¬ w.mu a → ¬ w'.mu a
  ix : ∀ (i : Nat) (a : Addr), w.ι[i]? = some a → w'.ι[n + i]? = some a
mutual
theorem Rep.sl {n : Nat} {w w1 : Wd} {H : Hp} (s : Sl2 n w H w1) : ∀ (d : D) (v : V), noLst d = true → Rep c w H d v → Rep c w1 H (shD n d) v
  | .non, v, _, h => by simpa [Rep, shD] using h
  | .bl _, v, _, h => by simpa [Rep, shD] using h
  | .int _, v, _, h => by simpa [Rep, shD] using h
  | .str _, v, _, h => by simpa [Rep, shD] using h
  | .cls _, v, _, h => by simpa [Rep, shD] using h
  | .dic _ _, v, _, h => by
    simp only [Rep, shD] at h ⊢
    obtain ⟨e, a, o, ns, e1, n, q, d, e2⟩ := h
    exact ⟨e, a, o, ns, e1, s.keep a _ q (fun _ e => by cases e) n, q, d, e2⟩
  | .ref i, v, _, h => by
    simp only [Rep, shD] at h ⊢
    obtain ⟨a, e, h⟩ := h
    exact ⟨a, e, s.ix _ _ h⟩
  | .tup xs, v, z, h => by
    simp only [noLst] at z
    simp only [Rep, shD] at h ⊢
    obtain ⟨a, vs, e, q, l, r⟩ := h
    exact ⟨a, vs, e, q.elim (fun q => .inl ⟨s.keep a _ q.2 (fun _ e => by cases e) q.1, q.2⟩) .inr, by rw [shL_len]; exact l, RepL.sl s xs vs z r⟩
  | .lst xs, v, z, h => by simp [noLst] at z
  | .exc x fs, v, z, h => by
    simp only [noLst] at z
    simp only [Rep, shD] at h ⊢
    obtain ⟨a, dd, e, n, q, r⟩ := h
    exact ⟨a, dd, e, s.keep a _ q (fun _ e => by cases e) n, q, RepX.sl s fs dd z r⟩
theorem RepL.sl {n : Nat} {w w1 : Wd} {H : Hp} (s : Sl2 n w H w1) : ∀ (ds : List D) (vs : List V), noLstL ds = true → RepL c w H ds vs → RepL c w1 H (shL n ds) vs
  | [], vs, _, h => by simpa [RepL, shL] using h
  | d :: ds, vs, z, h => by
    simp only [noLstL, Bool.and_eq_true] at z
    simp only [RepL, shL] at h ⊢
    obtain ⟨v, r, e, h1, h2⟩ := h
    exact ⟨v, r, e, Rep.sl s d v z.1 h1, RepL.sl s ds r z.2 h2⟩
theorem RepX.sl {n : Nat} {w w1 : Wd} {H : Hp} (s : Sl2 n w H w1) : ∀ (fs : List D) (dd : Option Addr), noLstL fs = true → RepX c w H fs dd → RepX c w1 H (shL n fs) dd
  | [], dd, _, h => by simpa [RepX, shL] using h
  | d :: ds, dd, z, h => by
    simp only [noLstL, Bool.and_eq_true] at z
    simp only [RepX, shL] at h ⊢
    obtain ⟨e, a, v, e2, n, h1, h2⟩ := h
    subst e
    exact ⟨rfl, a, v, e2, s.keep a _ h1 (fun _ e => by cases e) n, h1, Rep.sl s d v z.1 h2⟩
end
theorem keys_nr : ∀ ks : List Key, noRefL (ks.map kD) = true ∧ noLstL (ks.map kD) = true
  | [] => ⟨rfl, rfl⟩
  | k :: ks => by
    obtain ⟨h1, h2⟩ := keys_nr ks
    simp only [List.map_cons, noRefL, noLstL, h1, h2, Bool.and_true]
    cases k <;> exact ⟨rfl, rfl⟩
theorem RepO.sl {n : Nat} {w w1 : Wd} {H : Hp} (s : Sl2 n w H w1) {a : Addr} {mo : MO} (z : noLstO mo = true) (h : RepO c w H a mo) : RepO c w1 H a (shO n mo) := by
  have kk : ∀ (ks : List Key) (vs : List V), RepL c w H (ks.map kD) vs → RepL c w1 H (ks.map kD) vs := fun ks vs r => by
    have := RepL.sl s _ _ (keys_nr ks).2 r
    rwa [shL_nr n _ (keys_nr ks).1] at this
  cases mo with
  | lst xs =>
    obtain ⟨vs, e, l, r⟩ := h
    exact ⟨vs, e, by rw [shL_len]; exact l, RepL.sl s _ _ z r⟩
  | dic t ks vs =>
    obtain ⟨l, z2, h⟩ := h
    refine ⟨by rw [shL_len]; exact l, z2, ?_⟩
    cases t with
    | one =>
      obtain ⟨kvs, e, n, e2, r1, r2⟩ := h
      refine ⟨kvs, e, n, e2, ?_, RepL.sl s _ _ z r2⟩
      have e3 : ks = (kvs.map (·.1)).map kD := by rw [e2, List.map_map]; rfl
      rw [e3] at r1 ⊢
      exact kk _ _ r1
    | tup =>
      obtain ⟨kvs, xs, e, sm, kn, nd, ki, e2, r1, r2⟩ := h
      refine ⟨kvs, xs, e, sm, kn, nd, ki, e2, fun q hq => ?_, RepL.sl s _ _ z r2⟩
      have h1 := Rep.sl s (.tup (q.1.map kD)) _ (show noLst (.tup (q.1.map kD)) = true by simp only [noLst]; exact (keys_nr q.1).2) (r1 q hq)
      simp only [shD] at h1
      rwa [shL_nr n _ (keys_nr q.1).1] at h1
    | two =>
      obtain ⟨kvs, e, n, e2, r1, r2⟩ := h
      exact ⟨kvs, e, n, e2, fun p hp => ⟨(r1 p hp).1, kk _ _ (r1 p hp).2⟩, RepL.sl s _ _ z r2⟩
  | lck ks vs =>
    obtain ⟨l, z2, o, kvs, e, n, e2, r1, r2⟩ := h
    refine ⟨by rw [shL_len]; exact l, z2, o, kvs, e, n, e2, ?_, RepL.sl s _ _ z r2⟩
    have e3 : ks = (kvs.map (·.1)).map kD := by rw [e2, List.map_map]; rfl
    rw [e3] at r1 ⊢
    exact kk _ _ r1
  | obj x fs =>
    obtain ⟨dx, fv, e, k1, k2, r⟩ := h
    refine ⟨dx, fv, e, ?_, ?_, ?_⟩
    · rw [k1]
      have := shF_1 n fs
      have e1 : fs.map (fun p => c.an p.1) = (fs.map (·.1)).map c.an := by rw [List.map_map]; rfl
      have e2 : (shF n fs).map (fun p => c.an p.1) = ((shF n fs).map (·.1)).map c.an := by rw [List.map_map]; rfl
      rw [e1, e2, this]
    · intro p hp
      have : p.1 ∈ (shF n fs).map (·.1) := List.mem_map_of_mem hp
      rw [shF_1] at this
      obtain ⟨q, hq, e⟩ := List.mem_map.mp this
      rw [← e]
      exact k2 q hq
    · rw [shF_2]
      exact RepL.sl s _ _ z r
def lentW (w : Wd) (M : Hh) : Wd := ⟨fun a => w.mu a ∧ ∀ i : Nat, w.ι[i]? = some a → ∀ xs : List D, M[i]? ≠ some (MO.lst xs), []⟩
theorem lentRep {w : Wd} {M : Hh} {H : Hp} (S : Sim c w M H) : ∀ (n : Nat) (d : D) (v : V), noRef (snap M n d) = true → Rep c w H d v → Rep c (lentW w M) H (snap M n d) v := by
  have g : Gk w H (lentW w M) H := fun a o h n => ⟨fun m => m.elim (fun z => nomatch z) (fun z => n z.1), h⟩
  have lst : ∀ n, (∀ (d : D) (v : V), noRef (snap M n d) = true → Rep c w H d v → Rep c (lentW w M) H (snap M n d) v) → ∀ (xs : List D) (vs : List V), noRefL (xs.map (snap M n)) = true → RepL c w H xs vs → RepL c (lentW w M) H (xs.map (snap M n)) vs := by
    intro n ih xs
    induction xs with
    | nil => intro vs _ r; simpa [RepL] using r
    | cons x xs ihx =>
      intro vs z r
      obtain ⟨v, q, rfl, r1, r2⟩ := r.uncons
      simp only [List.map_cons, noRefL, Bool.and_eq_true] at z
      exact RepL.cons (ih x v z.1 r1) (ihx q z.2 r2)
  intro n
  induction n with
  | zero => intro d v z r; exact Rep.nr g d v z r
  | succ n ih =>
    intro d v z r
    cases d with
    | ref i =>
      obtain ⟨a, rfl, hi⟩ := rep_ref.mp r
      cases hM : M[i]? with
      | none => simp [snap, hM, noRef] at z
      | some mo =>
        cases mo with
        | lst xs =>
          obtain ⟨vs, e2, l, rr⟩ := S.cell i a (.lst xs) hi hM
          simp only [snap, hM, noRef] at z ⊢
          refine rep_lst.mpr ⟨a, vs, rfl, .inl ⟨fun m => ?_, .inl e2⟩, by rw [List.length_map]; exact l, lst n ih xs vs z rr⟩
          rcases m with m | m
          · cases m
          · exact m.2 i hi xs hM
        | dic _ _ _ => simp [snap, hM, noRef] at z
        | lck _ _ => simp [snap, hM, noRef] at z
        | obj _ _ => simp [snap, hM, noRef] at z
    | tup xs =>
      obtain ⟨a, vs, rfl, q, l, rr⟩ := rep_tup.mp r
      simp only [snap, noRef] at z ⊢
      exact rep_tup.mpr ⟨a, vs, rfl, q.gk g, by rw [List.length_map]; exact l, lst n ih xs vs z rr⟩
    | lst xs =>
      obtain ⟨a, vs, rfl, q, l, rr⟩ := rep_lst.mp r
      simp only [snap, noRef] at z ⊢
      exact rep_lst.mpr ⟨a, vs, rfl, q.gk g, by rw [List.length_map]; exact l, lst n ih xs vs z rr⟩
    | _ => exact Rep.nr g _ v z r
theorem lentRepL {w : Wd} {M : Hh} {H : Hp} (S : Sim c w M H) (n : Nat) : ∀ (xs : List D) (vs : List V), noRefL (xs.map (snap M n)) = true → RepL c w H xs vs → RepL c (lentW w M) H (xs.map (snap M n)) vs := by
  intro xs
  induction xs with
  | nil => intro vs _ r; simpa [RepL] using r
  | cons x xs ihx =>
    intro vs z r
    obtain ⟨v, q, rfl, r1, r2⟩ := r.uncons
    simp only [List.map_cons, noRefL, Bool.and_eq_true] at z
    exact RepL.cons (lentRep S n x v z.1 r1) (ihx q z.2 r2)
theorem lend_call {Φ : Orc} {f : Nat} {w : Wd} {M : Hh} {H : Hp} {ds : List D} {vs : List V} {Q : VK} {E : XK} (S : Sim c w M H) (r : RepL c w H ds vs) (h : OkG c (Rep c) w H (if noRefL (ds.map (snap M 8)) = true then lendD (Φ f (ds.map (snap M 8)) []) M else .bad) Q E) : spF c Φ f vs H Q E := by
  split at h
  · rename_i hz
    have gk : Gk w H (lentW w M) H := fun a o ha n => ⟨fun m => m.elim (fun z => nomatch z) (fun z => n z.1), ha⟩
    refine ⟨lentW w M, [], _, ⟨rfl, .nil, fun a ha => ⟨by simp [lentW], S.mu_some ha.1⟩, fun i a mo e _ => by simp [lentW] at e, fun k d e => ⟨(S.gl k d e).1, Rep.nr gk _ _ (S.gl k d e).1 (S.gl k d e).2⟩⟩, lentRepL S 8 _ _ hz r, ?_⟩
    have back : ∀ {w2 : Wd} {M' : Hh} {H2 : Hp}, Stp (lentW w M) H w2 H2 → Sim c w2 M' H2 → (∀ b o, H b = some o → H2 b = some o) ∧ Stp w H w H2 ∧ Sim c w M H2 ∧ (∀ a ∈ w2.ι, H a = none) ∧ (∀ a o, H2 a = some o → (∀ xs, o ≠ .lst xs) → ¬ w2.mu a → ¬ w.mu a) := by
      intro w2 M' H2 s S2
      have keep : ∀ b o, H b = some o → H2 b = some o := fun b o e => s.keep b o e (by simp [lentW])
      have s0 : Stp w H w H2 := ⟨rfl, ⟨[], by simp, by simp⟩, fun b o e _ => keep b o e, s.live, fun b o u e => keep b _ e⟩
      have new : ∀ a ∈ w2.ι, H a = none := by
        obtain ⟨nw, e1, e2⟩ := s.ι
        intro a ha
        rw [e1] at ha
        exact e2 a (by simpa [lentW] using ha)
      refine ⟨keep, s0, S.mono s0 fun a _ o e => keep a o e, new, fun a o ho hn n m => ?_⟩
      refine n (.inr ?_)
      rw [s.av]
      refine ⟨m, fun i hi xs hM => ?_⟩
      obtain ⟨vs2, e2, _, _⟩ := S.cell i a (.lst xs) hi hM
      have := keep a _ e2
      rw [ho] at this
      exact hn vs2 (by injection this)
    cases e : Φ f (ds.map (snap M 8)) [] with
    | bad => rw [e] at h; exact h
    | ok d M' =>
      rw [e] at h
      intro w2 H2 v s S2 rv
      obtain ⟨keep, s0, S0, new, nm⟩ := back s S2
      unfold lendD at h
      simp only at h
      split at h
      · rename_i hl
        split at h
        · rename_i hr
          have sl : Sl2 0 ⟨w2.av, []⟩ H2 w := ⟨fun a o ho hn n => ?_, fun i a e => by simp at e⟩
          · refine h w H2 v s0 S0 ?_
            have gg : Gk w2 H2 (⟨w2.av, []⟩ : Wd) H2 := fun a o ha n => ⟨fun m => m.elim (fun z => nomatch z) (fun z => n (.inr z)), ha⟩
            have rv2 : Rep c ⟨w2.av, []⟩ H2 d v := Rep.nr gg d v hr rv
            have := Rep.sl sl d v hl rv2
            have e0 : shD 0 d = d := by
              have := shL_nr 0 [d] (by simp [noRefL, hr])
              simpa [shL] using this
            rwa [e0] at this
          · intro m
            have : ¬ w2.av a := fun z => n (.inr z)
            by_cases hi : a ∈ w2.ι
            · obtain ⟨o', ho', _⟩ := S.mu_some m
              rw [new a hi] at ho'; cases ho'
            · exact nm a o ho hn (fun z => z.elim hi this) m
        · split at h
          · rename_i hall
            let w3 : Wd := ⟨w.av, w.ι ++ w2.ι⟩
            have sl : Sl2 M.length w2 H2 w3 := ⟨fun a o ho hn n m => ?_, fun i a hi => by
              show (w.ι ++ w2.ι)[M.length + i]? = some a
              rw [List.getElem?_append_right (by rw [S.len]; omega), S.len, Nat.add_sub_cancel_left]
              exact hi⟩
            · have st3 : Stp w H w3 H2 := ⟨rfl, ⟨w2.ι, rfl, new⟩, fun b o e _ => keep b o e, s.live, fun b o u e => keep b _ e⟩
              refine h w3 H2 v st3 ⟨?_, ?_, ?_, ?_, ?_⟩ (Rep.sl sl d v hl rv)
              · show (w.ι ++ w2.ι).length = _
                rw [List.length_append, List.length_append, List.length_map, S.len, S2.len]
              · refine List.nodup_append.mpr ⟨S.nd, S2.nd, fun a ha b hb hab => ?_⟩
                subst hab
                obtain ⟨o', ho', _⟩ := S.mu_some (.inl ha)
                rw [new a hb] at ho'; cases ho'
              · intro a ha
                obtain ⟨n1, o, ho, hm⟩ := S.av a ha
                refine ⟨fun m => ?_, o, keep a o ho, hm⟩
                rcases List.mem_append.mp m with m | m
                · exact n1 m
                · rw [new a m] at ho; cases ho
              · intro i a mo hi hM
                have hi : (w.ι ++ w2.ι)[i]? = some a := hi
                by_cases hl : i < w.ι.length
                · rw [List.getElem?_append_left hl] at hi
                  rw [List.getElem?_append_left (by rw [← S.len]; exact hl)] at hM
                  exact RepO.gr st3.gr (S.cell i a mo hi hM) (keep a)
                · rw [List.getElem?_append_right (by omega)] at hi
                  rw [List.getElem?_append_right (by rw [← S.len]; omega), List.getElem?_map] at hM
                  cases hq : M'[i - M.length]? with
                  | none => rw [hq] at hM; cases hM
                  | some mo' =>
                    rw [hq] at hM
                    cases hM
                    rw [S.len] at hi
                    exact RepO.sl sl (List.all_eq_true.mp hall mo' (List.mem_of_getElem? hq)) (S2.cell _ a mo' hi hq)
              · intro k d' hk
                exact ⟨(S.gl k d' hk).1, Rep.mono st3 _ _ (S.gl k d' hk).2⟩
            · rcases m with m | m
              · rcases List.mem_append.mp m with m | m
                · exact nm a o ho hn n (.inl m)
                · exact n (.inl m)
              · exact nm a o ho hn n (.inr m)
          · exact h.elim
      · exact h.elim
    | exn x fs M' =>
      rw [e] at h
      intro w2 H2 dd s S2 rx
      obtain ⟨keep, s0, S0, new, nm⟩ := back s S2
      unfold lendD at h
      simp only [Bool.and_eq_true] at h
      split at h
      · rename_i hn
        have sl : Sl2 0 ⟨w2.av, []⟩ H2 w := ⟨fun a o ho hn n => ?_, fun i a e => by simp at e⟩
        · refine h w H2 dd s0 S0 ?_
          have gg : Gk w2 H2 (⟨w2.av, []⟩ : Wd) H2 := fun a o ha n => ⟨fun m => m.elim (fun z => nomatch z) (fun z => n (.inr z)), ha⟩
          have rv2 : RepX c ⟨w2.av, []⟩ H2 fs dd := RepX.nr gg fs dd hn.1 rx
          have := RepX.sl sl fs dd hn.2 rv2
          rwa [shL_nr 0 fs hn.1] at this
        · intro m
          have : ¬ w2.av a := fun z => n (.inr z)
          by_cases hi : a ∈ w2.ι
          · obtain ⟨o', ho', _⟩ := S.mu_some m
            rw [new a hi] at ho'; cases ho'
          · exact nm a o ho hn (fun z => z.elim hi this) m
      · exact h.elim
  · exact h.elim
noncomputable def callSE (Φ : Orc) (f : Nat) (g : Sl → Hh → Out (List D)) : Sl → Hh → Out D := fun σ M => (g σ M).bind fun ds M1 => if noRefL (ds.map (snap M1 8)) then lendD (Φ f (ds.map (snap M1 8)) []) M1 else .bad
theorem callS_of {Φ : Orc} {f : Nat} {g : Sl → Hh → Out (List D)} {τ : L2.St} {H : Hp} {Q : VK} (h : tE c W (callSE Φ f g) τ H Q) : tCallS (spF c Φ f) (fun τ cls d H' => W cls d τ H') (tL c W g) τ H Q := by
  obtain ⟨w, M, σ, S, RS, h⟩ := h
  exact (nxtL S RS h).imp fun vs H1 ⟨w1, M1, ds, s, S1, RS1, r, q⟩ => lend_call S1 r q
noncomputable def callE (Φ : Orc) (p : Bool) (f : Nat) (g : Sl → Hh → Out (List D)) : Sl → Hh → Out D := fun σ M => (g σ M).bind fun ds M1 => if p then (if noRefL ds then ownD (Φ f ds []) M1 else .bad) else Φ f ds M1
theorem call_of {Φ : Orc} {p : Bool} {f : Nat} {g : Sl → Hh → Out (List D)} {τ : L2.St} {H : Hp} {Q : VK} (h : tE c W (callE Φ p f g) τ H Q) : tCallS (spF c Φ f) (fun τ cls d H' => W cls d τ H') (tL c W g) τ H Q := by
  obtain ⟨w, M, σ, S, RS, h⟩ := h
  refine (nxtL S RS h).imp fun vs H1 ⟨w1, M1, ds, s, S1, RS1, r, q⟩ => ?_
  cases p with
  | false => exact ⟨w1, M1, ds, S1, r, q⟩
  | true => exact own_call S1 r q
theorem pe_callS0 {CX : CXT} {k : Nat} {f : Addr} {fd : FuncData} {ps : List Str} {sp : Sp} {E : L2.St → XK} {x : Str} {p pos : Pos} (F : FnOk X.prog X.w X.K X.mg X.base CX k f fd ps sp) (hr : Room k X.A) (hg : Gl X x) (hm : X.mg x = some (.ref f)) (hk : PySem.W.keepIn X.K (.ref f) = true) (hb : Binds X.K fd ps []) (hx : ∀ σ, PassesAt CX X σ (E σ))
    (hdb : (x == ("__debug__" : Str)) = false) : PE X (.Call (.Name x p) [] [] pos) (tCallS sp E tNil) := by
  refine ⟨fun pins s σ H Q I h => ?_⟩
  refine wpAny_Call_Name_kw (ld_glob I hg hm ?_ hdb)
  exact PySem.W.callWith_K0 I.kIn hk (run_fnS (us := []) F hr hb (hx σ) I .nil h)
theorem l_callG {Φ : Orc} {G : Sl → Hh → Out D} {n : Nat} {CX : CXT} {k : Nat} {f : Addr} {fd : FuncData} {ps : List Str} {x : Str} {p pos : Pos} {es : List Expr} {g : Sl → Hh → Out (List D)} (F : FnOk X.prog X.w X.K X.mg X.base CX k f fd ps (spF c Φ n)) (hr : Room k X.A) (hg : Gl X x) (hm : X.mg x = some (.ref f)) (hk : PySem.W.keepIn X.K (.ref f) = true) (hb : Binds X.K fd ps [])
    (hx : ∀ τ, PassesAt CX X τ (fun cls d H' => W cls d τ H')) (ha : PA X es (tL c W g)) (hs : es.all notStar = true) (hne : es ≠ []) (hdb : (x == ("__debug__" : Str)) = false) (of : ∀ τ H Q, tE c W G τ H Q → tCallS (spF c Φ n) (fun τ cls d H' => W cls d τ H') (tL c W g) τ H Q) : PE X (.Call (.Name x p) es [] pos) (tE c W G) := by
  cases es with
  | nil => exact absurd rfl hne
  | cons e es =>
    rw [List.all_cons, Bool.and_eq_true] at hs
    exact (pe_callS F hr hg hm hk hb hx ha hdb (star_eq hs.1) (star_any hs.2)).weak of
theorem l_call {Φ : Orc} {pu : Bool} {n : Nat} {CX : CXT} {k : Nat} {f : Addr} {fd : FuncData} {ps : List Str} {x : Str} {p pos : Pos} {es : List Expr} {g : Sl → Hh → Out (List D)} (F : FnOk X.prog X.w X.K X.mg X.base CX k f fd ps (spF c Φ n)) (hr : Room k X.A) (hg : Gl X x) (hm : X.mg x = some (.ref f)) (hk : PySem.W.keepIn X.K (.ref f) = true) (hb : Binds X.K fd ps [])
    (hx : ∀ τ, PassesAt CX X τ (fun cls d H' => W cls d τ H')) (ha : PA X es (tL c W g)) (hs : es.all notStar = true) (hne : es ≠ []) (hdb : (x == ("__debug__" : Str)) = false) : PE X (.Call (.Name x p) es [] pos) (tE c W (callE Φ pu n g)) := by
  cases es with
  | nil => exact absurd rfl hne
  | cons e es =>
    rw [List.all_cons, Bool.and_eq_true] at hs
    exact (pe_callS F hr hg hm hk hb hx ha hdb (star_eq hs.1) (star_any hs.2)).weak fun τ H Q h => call_of h
noncomputable def callVE (Φ : Orc) (i : Nat) (fs : List Nat) (g : Sl → Hh → Out (List D)) : Sl → Hh → Out D := fun σ M => match σ[i]? with
  | some (some (.cls x)) => if fs.contains x = true then (g σ M).bind fun ds M1 => Φ (x - 500) ds M1 else .bad
  | _ => .bad
theorem l_callV {Φ : Orc} {CX : CXT} {k i : Nat} {fs : List Nat} {x : Str} {p pos : Pos} {e : Expr} {es : List Expr} {g : Sl → Hh → Out (List D)}
    (FV : ∀ y, fs.contains y = true → ∃ (kk : Nat) (a : Addr) (fd : FuncData) (ps : List Str), c.gl[kk]? = some (.cls y) ∧ RelV (c.gv kk) (.ref a) ∧ PySem.W.keepIn X.K (.ref a) = true ∧ Binds X.K fd ps [] ∧ FnOk X.prog X.w X.K X.mg X.base CX k a fd ps (spF c Φ (y - 500)))
    (hr : Room k X.A) (hN : X.N[i]? = some x) (hv : Vis X.env.scope x) (hd : (x == ("__debug__" : Str)) = false) (hcd : (x == ("__classdict__" : Str)) = false)
    (hx : ∀ τ, PassesAt CX X τ (fun cls d H' => W cls d τ H')) (ha : PA X (e :: es) (tL c W g)) (hs : (e :: es).all notStar = true) : PE X (.Call (.Name x p) (e :: es) [] pos) (tE c W (callVE Φ i fs g)) := by
  rw [List.all_cons, Bool.and_eq_true] at hs
  refine ⟨fun pins s σ H Q I h => ?_⟩
  obtain ⟨w, M, σ', S, RS, h⟩ := h
  unfold callVE at h
  split at h
  · rename_i y ey
    split at h
    · rename_i hy
      obtain ⟨v, e2, r⟩ := RS.at_ i _ ey
      rw [rep_cls] at r
      subst r
      obtain ⟨kk, a, fd, ps, e3, rr, hk, hb, F⟩ := FV y hy
      have r2 := (S.gl kk _ e3).2
      rw [rep_cls] at r2
      rw [r2] at rr
      have ea : a = c.ca y := by
        have : (Value.ref a) = .ref (c.ca y) := rr
        cases this; rfl
      subst ea
      have h' : tCallS (spF c Φ (y - 500)) (fun τ cls d H' => W cls d τ H') (tL c W g) σ H Q := call_of (Φ := Φ) (p := false) (f := y - 500) (g := g) ⟨w, M, σ', S, RS, h⟩
      refine wpAny_Call_Name_kw (thn ((pe_var hN hv hd hcd).run pins s σ H (fun v H1 => v = .ref (c.ca y) ∧ H1 = H) I ⟨_, e2, rfl, rfl⟩) fun u s1 hh => ?_)
      obtain ⟨v, H1, I1, r1, ev, eH⟩ := hh
      subst ev
      subst eH
      have eu : u = .ref (c.ca y) := r1
      subst eu
      exact PySem.W.callWith_K (h₀ := X.base) I1.ok.mod.kin hk (thn (ha.run pos pins s1 σ _ _ I1 h') fun us s2 ⟨vs, H2, I2, r3, q⟩ => ⟨I2.kIn, run_fnS (E := fun τ cls d H' => W cls d τ H') (σ := σ) F hr hb (hx σ) I2 r3 q⟩) (star_eq hs.1) (star_any hs.2)
    · exact h.elim
  · exact h.elim
end
end Fw
namespace Fw
open PySem PySem.Spec PyProof.Rows L2
structure ObOk (c : Ct) (P : Pg) (an mn : List Str) (on : List (Str × Nat)) (Φ : Orc) (lvl : Nat) (CX : CXT) (pr : Program) (w : World) (mg : Str → Option Value) (base : Heap) : Prop where
  a0 : an[0]? = some ("at" : Str)
  aN : ∀ k x, an[k]? = some x → c.an k = x
  na : c.na = an.length
  nd : an.Nodup
  dis : ∀ m ∈ mn, m ∉ an
  oN : ∀ x i, on.lookup x = some i → mg x = some (.ref (c.ca i))
  cl : ∀ x, (P.ini x).isSome = true → Cls c.K (c.ca x) ∧ ∀ n ∈ an, NoAttr c.K (c.ca x) n
  mkr : ∀ y x f, on.lookup y = some x → P.ini x = some f → ∃ a fd ps, Mk c.K (c.ca x) a ∧ Binds c.K fd ps [] ∧ FnOk pr w c.K mg base CX lvl a fd ps (spF c Φ f)
  mt : ∀ x k f n, mn[k]? = some n → P.mth x k = some f → (P.ini x).isSome = true ∧ ∃ a fd ps, Meth c.K (c.ca x) n a ∧ Binds c.K fd ps [] ∧ FnOk pr w c.K mg base CX lvl a fd ps (spF c Φ f)
theorem nodup_ix {α : Type} {l : List α} (h : l.Nodup) {i j : Nat} {a : α} (hi : l[i]? = some a) (hj : l[j]? = some a) : i = j := by
  obtain ⟨h1, e1⟩ := List.getElem?_eq_some_iff.mp hi
  obtain ⟨h2, e2⟩ := List.getElem?_eq_some_iff.mp hj
  exact (List.getElem_inj h).mp (e1.trans e2.symm)
section
variable {c : Ct} {P : Pg} {an mn : List Str} {on : List (Str × Nat)} {Φ : Orc} {lvl : Nat} {CX : CXT} {pr : Program} {w : World} {mg : Str → Option Value} {base : Heap}
theorem ObOk.at_ (B : ObOk c P an mn on Φ lvl CX pr w mg base) {i : Nat} (h : i < c.na) : an[i]? = some (c.an i) := by
  rw [B.na] at h
  have e : an[i]? = some an[i] := List.getElem?_eq_getElem h
  rw [e, B.aN i _ e]
theorem ObOk.inj (B : ObOk c P an mn on Φ lvl CX pr w mg base) {i k : Nat} {n : Str} (h : i < c.na) (hk : an[k]? = some n) (e : c.an i = c.an k) : i = k :=
  nodup_ix B.nd (B.at_ h) (by rw [e, hk, B.aN k n hk])
theorem ObOk.no (B : ObOk c P an mn on Φ lvl CX pr w mg base) {m : Str} {k : Nat} (hm : mn[k]? = some m) {fs : List (Nat × D)} {fv : List (Str × V)} (e : fv.map (·.1) = fs.map (fun p => c.an p.1)) (hb : ∀ p ∈ fs, p.1 < c.na) : fv.lookup m = none := by
  have hn : m ∉ fv.map (·.1) := fun z => by
    rw [e] at z
    obtain ⟨p, hp, ep⟩ := List.mem_map.mp z
    exact B.dis m (List.mem_of_getElem? hm) (by rw [← ep]; exact List.mem_of_getElem? (B.at_ (hb p hp)))
  clear e
  induction fv with
  | nil => rfl
  | cons p fv ih =>
    simp only [List.map_cons, List.mem_cons, not_or] at hn
    rw [List.lookup_cons, show (m == p.1) = false from by simpa using hn.1]
    exact ih hn.2
end
section
variable {c : Ct} {w : Wd} {H : Hp}
theorem fld_rep {f : Nat} {d : D} : ∀ {fs : List (Nat × D)} {fv : List (Str × V)}, fv.map (·.1) = fs.map (fun p => c.an p.1) → RepL c w H (fs.map (·.2)) (fv.map (·.2)) → (∀ p ∈ fs, c.an p.1 = c.an f → p.1 = f) → fldOf f fs = some d → ∃ v, fv.lookup (c.an f) = some v ∧ Rep c w H d v
  | [], _, _, _, _, h => by simp [fldOf] at h
  | p :: fs, [], e, _, _, _ => by simp at e
  | p :: fs, q :: fv, e, r, hi, h => by
    simp only [List.map_cons, List.cons.injEq] at e
    obtain ⟨v, vr, e2, r1, r2⟩ := r.uncons
    simp only [List.map_cons, List.cons.injEq] at e2
    obtain ⟨e3, e4⟩ := e2
    subst e3 e4
    obtain ⟨g, x⟩ := p
    obtain ⟨qn, qv⟩ := q
    simp only at e r1
    unfold fldOf at h
    split at h
    · rename_i hg
      cases h
      subst hg
      exact ⟨qv, by rw [List.lookup_cons, show (c.an g == qn) = true from by simp [e.1]], r1⟩
    · rename_i hg
      obtain ⟨v, h1, h2⟩ := fld_rep e.2 r2 (fun p hp => hi p (List.mem_cons_of_mem _ hp)) h
      refine ⟨v, ?_, h2⟩
      rw [List.lookup_cons, show (c.an f == qn) = false from ?_]
      · exact h1
      · rw [e.1]
        simp only [beq_eq_false_iff_ne, ne_eq]
        intro z
        exact hg (hi _ List.mem_cons_self z.symm)
theorem put_rep {f : Nat} {d : D} {y : V} (rd : Rep c w H d y) : ∀ {fs : List (Nat × D)} {fv : List (Str × V)}, fv.map (·.1) = fs.map (fun p => c.an p.1) → RepL c w H (fs.map (·.2)) (fv.map (·.2)) → (∀ p ∈ fs, c.an p.1 = c.an f → p.1 = f) →
    (L2.putF (c.an f) y fv).map (·.1) = (Fw.putF f d fs).map (fun p => c.an p.1) ∧ RepL c w H ((Fw.putF f d fs).map (·.2)) ((L2.putF (c.an f) y fv).map (·.2)) ∧ ∀ p ∈ Fw.putF f d fs, p.1 = f ∨ ∃ q ∈ fs, q.1 = p.1
  | [], [], _, _, _ => ⟨rfl, RepL.cons rd RepL.nil, fun p hp => by
    have : p = (f, d) := by simpa [Fw.putF] using hp
    exact .inl (by rw [this])⟩
  | [], _ :: _, e, _, _ => by simp at e
  | p :: fs, [], e, _, _ => by simp at e
  | p :: fs, q :: fv, e, r, hi => by
    simp only [List.map_cons, List.cons.injEq] at e
    obtain ⟨v, vr, e2, r1, r2⟩ := r.uncons
    simp only [List.map_cons, List.cons.injEq] at e2
    obtain ⟨e3, e4⟩ := e2
    subst e3 e4
    obtain ⟨g, x⟩ := p
    obtain ⟨qn, qv⟩ := q
    simp only at e r1
    unfold L2.putF Fw.putF
    by_cases hg : g = f
    · subst hg
      rw [if_pos e.1, if_pos rfl]
      refine ⟨by simp [e.1, e.2], RepL.cons rd r2, fun p hp => ?_⟩
      rcases List.mem_cons.mp hp with z | z
      · exact .inl (by rw [z])
      · exact .inr ⟨p, List.mem_cons_of_mem _ z, rfl⟩
    · have hq : ¬ qn = c.an f := fun z => hg (hi _ List.mem_cons_self (e.1.symm.trans z))
      rw [if_neg hq, if_neg hg]
      obtain ⟨i1, i2, i3⟩ := put_rep (f := f) rd e.2 r2 (fun p hp => hi p (List.mem_cons_of_mem _ hp))
      refine ⟨by simp only [List.map_cons, List.cons.injEq]; exact ⟨e.1, i1⟩, RepL.cons r1 i2, fun p hp => ?_⟩
      rcases List.mem_cons.mp hp with z | z
      · exact .inr ⟨_, List.mem_cons_self, by rw [z]⟩
      · rcases i3 p z with y | ⟨q, hq, y⟩
        · exact .inl y
        · exact .inr ⟨q, List.mem_cons_of_mem _ hq, y⟩
end
theorem m_bitlen {c : Ct} {X : Cx} : MtR X "int.bit_length" (rVm c bitlenD) := by
  intro pins s σ H x xs v us Q I rx r h
  obtain ⟨w, M, d, ds, E, S, r1, r2, h⟩ := h
  unfold bitlenD at h
  split at h
  · rename_i i
    rw [rep_int] at r1
    subst r1
    have : xs = [] := by simpa [RepL] using r2
    subst this
    cases r
    obtain ⟨t, rfl⟩ := (show ∃ t, v = Value.int i t from rx)
    exact PyProof.Rows.call_int_bit_length ⟨.int _, H, I.tok _, ⟨_, rfl⟩, h.ret S (rep_int.mpr rfl)⟩
  · exact h.elim
section
variable {c : Ct} {W : WX} {X : Cx} {P : Pg} {an mn : List Str} {on : List (Str × Nat)} {Φ : Orc} {lvl : Nat} {CX : CXT}
theorem l_attr {e : Expr} {f : Sl → Hh → Out D} {k : Nat} {n : Str} {pos : Pos} (hK : X.K = c.K) (KK : KitOk c P P.ok) (B : ObOk c P an mn on Φ lvl CX X.prog X.w X.mg X.base) (hk : an[k]? = some n) (he : PE X e (tE c W f)) (hb : plainBase e = true) :
    PE X (.Attribute e n pos) (tE c W fun σ M => (f σ M).bind fun x M1 => attrD P.ok P.ini x k M1) := by
  refine ⟨fun pins s τ H Q I ⟨w, M, σ, S, RS, h⟩ => ?_⟩
  refine attr_of (base_eq hb) (thn (he.run pins s τ H _ I (nxt S RS h)) fun u s1 hh => ?_)
  obtain ⟨x, H1, I1, rx, w1, M1, d, s1', S1, RS1, r, q⟩ := hh
  unfold attrD at q
  split at q
  · rename_i x0 v0
    split at q
    · rename_i hc
      obtain ⟨hc1, rfl⟩ := hc
      obtain rfl : n = "at" := by rw [B.a0] at hk; exact (Option.some.inj hk).symm
      obtain ⟨a, dd, rfl, nm, ha, rx2⟩ := rep_exc.mp r
      obtain ⟨_, d2, v, rfl, nd, hd2, rv⟩ := (show _ ∧ _ from by simpa only [RepX] using rx2)
      obtain rfl : u = Value.ref a := rx
      obtain ⟨⟨oe, vs, ho, hz, hdat⟩, _⟩ := I1.hok a _ ha
      obtain ⟨mA, hns, hr⟩ := (I1.hok d2 _ hd2 : ObjOk X.prog X.w H1 s1.heap d2 (.xd [("at", v)]))
      obtain ⟨od, hod, hl⟩ := lookIn_ns hns
      obtain ⟨u', hu, ru⟩ := RelO.some_of (v := v) (o := mA "at") (by simpa using hr "at")
      have C := KK.ex x0 hc1
      have no := KK.at_ x0 hc1
      rw [← hK] at C no
      have J : PySem.W.InstAt s1.heap a oe (c.ca x0) (some od) := ⟨ho, hz.1, by unfold PySem.W.notCls; rw [hdat] <;> rfl, by rw [hz.2]; exact hod⟩
      refine HandSPX.exc_get I1.kIn J C.hg C.hk C.hs (PySem.W.findObj_own C.hd no rfl (by rw [hl, hu])) (handed_of ru) ⟨v, H1, I1.tok _, ru, ?_⟩
      exact q w1 H1 v Stp.refl S1 rv
    · exact q.elim
  · rename_i i
    split at q
    · rename_i x0 fs hM
      split at q
      · rename_i hi
        split at q
        · rename_i d hd
          obtain ⟨a, rfl, ha⟩ := rep_ref.mp r
          obtain ⟨dx, fv, e, e2, e3, rr⟩ := S1.cell i a _ ha hM
          obtain ⟨hc, hn⟩ := B.cl x0 hi
          have hn := hn n (List.mem_of_getElem? hk)
          rw [← hK] at hc hn
          obtain rfl : u = Value.ref a := rx
          obtain ⟨v, hl, rv⟩ := fld_rep e2 rr (fun p hp z => B.inj (e3 p hp) hk z) hd
          rw [B.aN k n hk] at hl
          exact getattr_ok I1 e hc hn hl fun u' s2 I2 ru => ⟨v, H1, I2, ru, q w1 H1 v Stp.refl S1 rv⟩
        · exact q.elim
      · exact q.elim
    · exact q.elim
  · exact q.elim
noncomputable def methE (P : Pg) (Φ : Orc) (k : Nat) (f : Sl → Hh → Out D) (g : Sl → Hh → Out (List D)) : Sl → Hh → Out D := fun σ M => (f σ M).bind fun x M1 => match x with
    | .ref i => match M1[i]? with
      | some (.obj c fs) => match P.mth c k with
        | some f => (g σ M1).bind fun ds M2 => Φ f (.ref i :: ds) M2
        | none => .bad
      | _ => .bad
    | _ => .bad
theorem l_meth {o : Expr} {es : List Expr} {n : Str} {k : Nat} {apos pos : Pos} {f : Sl → Hh → Out D} {g : Sl → Hh → Out (List D)} (hK : X.K = c.K) (B : ObOk c P an mn on Φ lvl CX X.prog X.w X.mg X.base) (hr : Room lvl X.A) (hn : mn[k]? = some n) (ho : PE X o (tE c W f)) (ha : PA X es (tL c W g)) (hb : plainBase o = true)
    (hl : (apos.endLine == pos.line) = true) (hs : es.all notStar = true) (hlen : es.length < 20) (h0 : es = [] → g = fun _ M => .ok [] M) (hx : ∀ τ, PassesAt CX X τ (fun cls d H' => W cls d τ H')) : PE X (.Call (.Attribute o n apos) es [] pos) (tE c W (methE P Φ k f g)) := by
  refine ⟨fun pins s τ H Q I ⟨w, M, σ, S, RS, h⟩ => ?_⟩
  have hform : methodCallForm (es.length + ([] : List Keyword).length) (backTo pos (starEach es X.env)) (backToKw pos (keywordEach [] X.env)) = true := by
    unfold methodCallForm
    rw [star_all hs]
    show (true && true && decide (es.length + 0 + 0 < 30)) = true
    simp; omega
  have hpos : methodCallPos true o X.env apos pos = pure pos := by unfold methodCallPos; simp [hl]
  rw [arm_eval_Call, base_eq hb]
  refine wpAny_bind (wpAny_mono (ho.run pins s τ H _ I (nxt S RS h)) (fun ov s1 hh => ?_) fun _ _ e => e)
  obtain ⟨x, H1, I1, rx, w1, M1, d, s1', S1, RS1, r, q⟩ := hh
  refine wpAny_bind (wpAny_standAt ?_)
  unfold methodCall
  rw [hform]
  split at q
  · rename_i i
    split at q
    · rename_i x0 fs hM
      split at q
      · rename_i ff hf
        obtain ⟨a, rfl, hia⟩ := rep_ref.mp r
        obtain ⟨dx, fv, e, e2, e3, rr⟩ := S1.cell i a _ hia hM
        obtain ⟨hi, gA, fd, ps, hm, hbd, F⟩ := B.mt x0 k ff n hn hf
        have hc := (B.cl x0 hi).1
        rw [← hK] at hc hm F hbd
        obtain rfl : ov = Value.ref a := rx
        refine wpAny_bind (wpAny_holding (getmeth_ok I1 e hc hm (B.no hn e2 e3) ?_))
        refine wpAny_bind (wpAny_of_eq hpos ?_)
        cases es with
        | nil =>
          rw [h0 rfl] at q
          exact PySem.W.callWith_K0 (first := [.ref a]) I1.kIn hm.kp (run_fnS (E := fun τ cls d H' => W cls d τ H') (us := [.ref a]) (vs := [.ref a]) F hr hbd (hx τ) I1 (.cons rfl .nil) ⟨w1, M1, _, S1, RepL.cons (rep_ref.mpr ⟨a, rfl, hia⟩) RepL.nil, q⟩)
        | cons e' es' =>
          rw [List.all_cons, Bool.and_eq_true] at hs
          refine PySem.W.callWith_K (first := [.ref a]) (h₀ := X.base) I1.ok.mod.kin hm.kp (thn (ha.run pos pins s1 τ H1 _ I1 (nxtL S1 RS1 q)) fun us s2 hh => ?_) (star_eq hs.1) (star_any hs.2)
          obtain ⟨vs, H2, I2, r2, w2, M2, ds, s3, S2, RS2, rl, q2⟩ := hh
          exact ⟨I2.kIn, run_fnS (E := fun τ cls d H' => W cls d τ H') (us := .ref a :: us) (vs := .ref a :: vs) F hr hbd (hx τ) I2 (.cons rfl r2) ⟨w2, M2, _, S2, RepL.cons (rep_ref.mpr ⟨a, rfl, s3.ix hia⟩) rl, q2⟩⟩
      · exact q.elim
    · exact q.elim
  · exact q.elim
theorem new_of {f k : Nat} {w : Wd} {M : Hh} {H : Hp} {ds : List D} {vs : List V} {Q : VK} {E : XK} (S : Sim c w M H) (r : RepL c w H ds vs) {x dx : Addr} (hx : H x = none) (hdx : H dx = none) (hne : dx ≠ x)
    (h : OkG c (Rep c) w H (newD M.length (Φ f (.ref M.length :: ds) (M ++ [.obj k []]))) Q E) :
    spF c Φ f (.ref x :: vs) (upd (upd H dx (.own x)) x (.ins (c.ca k) dx [])) (fun v H2 => v = .non ∧ Q (.ref x) H2) (fun _ _ _ => False) := by
  have s1 : Stp w H w (upd H dx (.own x)) := Stp.laid hdx
  have S1 : Sim c w M (upd H dx (.own x)) := S.laid hdx
  have hx1 : upd H dx (.own x) x = none := by rw [upd_ne (Ne.symm hne)]; exact hx
  have s2 : Stp w (upd H dx (.own x)) (w.push x) (upd (upd H dx (.own x)) x (.ins (c.ca k) dx [])) := Stp.push hx1
  have s := s1.trans s2
  have hi : (w.push x).ι[M.length]? = some x := by
    show (w.ι ++ [x])[M.length]? = _
    rw [← S.len]
    exact List.getElem?_concat_length
  refine ⟨w.push x, M ++ [.obj k []], .ref M.length :: ds, S1.push (mo := .obj k []) hx1 ⟨dx, [], upd_same, rfl, fun _ h => (by cases h), RepL.nil⟩, RepL.cons (rep_ref.mpr ⟨x, rfl, hi⟩) (RepL.mono s _ _ r), ?_⟩
  cases e : Φ f (.ref M.length :: ds) (M ++ [.obj k []]) with
  | bad => rw [e] at h; exact h
  | exn _ _ _ => rw [e] at h; exact h.elim
  | ok d M' =>
    rw [e] at h
    intro w' H' v s' S' r'
    cases d with
    | non => exact ⟨rep_non.mp r', h w' H' (.ref x) (s.trans s') S' (rep_ref.mpr ⟨x, rfl, s'.ix hi⟩)⟩
    | _ => exact h.elim
noncomputable def newE (P : Pg) (Φ : Orc) (k : Nat) (g : Sl → Hh → Out (List D)) : Sl → Hh → Out D := fun σ M => (g σ M).bind fun ds M1 => match P.ini k with
    | some f => newD M1.length (Φ f (.ref M1.length :: ds) (M1 ++ [.obj k []]))
    | none => .bad
theorem l_new {es : List Expr} {x : Str} {k : Nat} {p pos : Pos} {g : Sl → Hh → Out (List D)} (hK : X.K = c.K) (B : ObOk c P an mn on Φ lvl CX X.prog X.w X.mg X.base) (hr : Room (lvl + 1) X.A) (hg : Gl X x) (hon : on.lookup x = some k) (hi : (P.ini k).isSome = true) (ha : PA X es (tL c W g)) (hs : es.all notStar = true)
    (h0 : es = [] → g = fun _ M => .ok [] M) (cxF : ∀ outer H s u s', ¬ CX outer H s (fun _ _ _ => False) u s') (hdb : (x == ("__debug__" : Str)) = false) : PE X (.Call (.Name x p) es [] pos) (tE c W (newE P Φ k g)) := by
  obtain ⟨f, hf⟩ := Option.isSome_iff_exists.mp hi
  obtain ⟨a, fd, ps, hmk, hbd, F⟩ := B.mkr x k f hon hf
  have hm := B.oN x k hon
  rw [← hK] at hmk hbd F
  have pn : Passes CX X (fun _ _ _ => False) := fun _ _ _ _ _ _ _ q => (cxF _ _ _ _ _ q).elim
  unfold newE
  rw [hf]
  cases es with
  | nil =>
    rw [h0 rfl]
    refine (pe_make0 (dvs := []) hmk F hr hg hm hbd .nil pn hdb).weak fun τ H Q ⟨w, M, σ, S, RS, h⟩ => ?_
    exact fun x dx hx hdx hne => new_of S RepL.nil hx hdx hne h
  | cons e es =>
    rw [List.all_cons, Bool.and_eq_true] at hs
    refine (pe_make (dvs := []) hmk F hr hg hm hbd .nil pn ha hdb (star_eq hs.1) (star_any hs.2)).weak fun τ H Q ⟨w, M, σ, S, RS, h⟩ => ?_
    refine (nxtL S RS h).imp fun vs H1 ⟨w1, M1, ds, s1, S1, RS1, rl, q⟩ x dx hx hdx hne => ?_
    rw [List.append_nil]
    exact new_of S1 rl hx hdx hne q
end
end Fw
namespace Fw
open PySem PySem.Spec PyProof.Rows L2
section
variable {κ : Type} [DecidableEq κ]
theorem put_pos {p : κ × V} {kvs : List (κ × V)} {k : κ} {v : V} (e : p.1 = k) (n : k ∉ kvs.map (·.1)) : L2.putK (p :: kvs) k v = (p.1, v) :: kvs := by
  unfold L2.putK
  have h1 : ((p :: kvs).any fun kv => decide (kv.1 = k)) = true := by simp [e]
  rw [if_pos h1, List.map_cons, if_pos e]
  congr 1
  conv => rhs; rw [← List.map_id kvs]
  refine List.map_congr_left fun q hq => ?_
  rw [if_neg (fun z => n (by rw [← z]; exact List.mem_map_of_mem hq))]
  rfl
theorem put_neg {p : κ × V} {kvs : List (κ × V)} {k : κ} {v : V} (e : ¬ p.1 = k) : L2.putK (p :: kvs) k v = p :: L2.putK kvs k v := by
  unfold L2.putK
  simp only [List.any_cons, e, decide_false, Bool.false_or, List.map_cons, if_false, List.cons_append]
  split <;> rfl
theorem put_nil {k : κ} {v : V} : L2.putK ([] : List (κ × V)) k v = [(k, v)] := rfl
theorem put_keys {k : κ} {v : V} : ∀ {kvs : List (κ × V)}, (kvs.map (·.1)).Nodup → ((L2.putK kvs k v).map (·.1)).Nodup ∧ ∀ x ∈ (L2.putK kvs k v).map (·.1), x = k ∨ x ∈ kvs.map (·.1)
  | [], _ => by rw [put_nil]; simp
  | p :: kvs, h => by
    simp only [List.map_cons, List.nodup_cons] at h
    obtain ⟨i1, i2⟩ := put_keys (k := k) (v := v) h.2
    by_cases e : p.1 = k
    · rw [put_pos e (by rw [← e]; exact h.1)]
      refine ⟨by simp only [List.map_cons, List.nodup_cons]; exact h, fun x hx => .inr (by simpa using hx)⟩
    · rw [put_neg e]
      refine ⟨?_, fun x hx => ?_⟩
      · simp only [List.map_cons, List.nodup_cons]
        refine ⟨fun z => ?_, i1⟩
        rcases i2 _ z with q | q
        · exact e q
        · exact h.1 q
      · simp only [List.map_cons, List.mem_cons] at hx ⊢
        rcases hx with q | q
        · exact .inr (.inl q)
        · rcases i2 x q with z | z
          · exact .inl z
          · exact .inr (.inr z)
end
section
variable {c : Ct} {w : Wd} {M : Hh} {H : Hp}
theorem put_ok {κ : Type} [DecidableEq κ] {f : κ → D} (hf : ∀ a b, eqD (f a) (f b) = decide (a = b)) {k : κ} {d : D} {v : V} (rd : Rep c w H d v) : ∀ {kvs : List (κ × V)} {vs : List D}, (kvs.map (·.1)).Nodup → RepL c w H vs (kvs.map (·.2)) →
    (Fw.putK (f k) d (kvs.map fun p => f p.1) vs).1 = (L2.putK kvs k v).map (fun p => f p.1) ∧ RepL c w H (Fw.putK (f k) d (kvs.map fun p => f p.1) vs).2 ((L2.putK kvs k v).map (·.2)) ∧ (L2.putK kvs k v).length ≤ kvs.length + 1
  | [], vs, _, r => by
    rw [put_nil]
    simp only [Fw.putK, List.map_nil, List.map_cons]
    exact ⟨trivial, RepL.cons rd RepL.nil, by simp⟩
  | p :: kvs, vs, hn, r => by
    cases vs with
    | nil => simp only [RepL, List.map_cons] at r; cases r
    | cons y vs =>
      obtain ⟨u, q, e, r1, r2⟩ := r.uncons
      simp only [List.map_cons, List.cons.injEq] at e
      obtain ⟨e1, e2⟩ := e
      subst e1 e2
      simp only [List.map_cons, List.nodup_cons] at hn
      simp only [List.map_cons, Fw.putK, hf]
      by_cases hk : p.1 = k
      · rw [put_pos hk (by rw [← hk]; exact hn.1)]
        simp only [hk, decide_true, if_true, List.map_cons]
        exact ⟨trivial, RepL.cons rd r2, by simp⟩
      · rw [put_neg hk]
        obtain ⟨i1, i2, i3⟩ := put_ok hf (k := k) rd hn.2 r2
        simp only [hk, decide_false, Bool.false_eq_true, if_false, List.map_cons]
        refine ⟨by rw [i1], RepL.cons r1 i2, by simpa using i3⟩
end
section
variable {c : Ct} {w : Wd} {M : Hh} {H : Hp}
theorem merge_ok : ∀ (more : List (Key × V)) (es : List D), RepL c w H es (more.map (·.2)) → ∀ (kvs : List (Key × V)) (vs : List D), (kvs.map (·.1)).Nodup → RepL c w H vs (kvs.map (·.2)) →
    (mergeD (more.map fun p => kD p.1) es (kvs.map (fun p => kD p.1), vs)).1 = (mergeK kvs more).map (fun p => kD p.1) ∧ RepL c w H (mergeD (more.map fun p => kD p.1) es (kvs.map (fun p => kD p.1), vs)).2 ((mergeK kvs more).map (·.2)) ∧
      ((mergeK kvs more).map (·.1)).Nodup ∧ ∀ x ∈ (mergeK kvs more).map (·.1), x ∈ kvs.map (·.1) ∨ x ∈ more.map (·.1)
  | [], es, _, kvs, vs, hn, r => by
    simp only [List.map_nil, mergeD, mergeK, List.foldl_nil]
    exact ⟨trivial, r, hn, fun x hx => .inl hx⟩
  | p :: more, es, re, kvs, vs, hn, r => by
    cases es with
    | nil => simp only [RepL, List.map_cons] at re; cases re
    | cons e es =>
      obtain ⟨v, q, eq, r1, r2⟩ := re.uncons
      simp only [List.map_cons, List.cons.injEq] at eq
      obtain ⟨e1, e2⟩ := eq
      subst e1 e2
      obtain ⟨p1, p2, _⟩ := put_ok (c := c) (w := w) (H := H) eqD_kD (k := p.1) r1 hn r
      obtain ⟨n1, n2⟩ := put_keys (k := p.1) (v := p.2) hn
      have ih := merge_ok more es r2 (L2.putK kvs p.1 p.2) _ n1 p2
      rw [← p1] at ih
      obtain ⟨i1, i2, i3, i4⟩ := ih
      refine ⟨i1, i2, i3, fun x hx => ?_⟩
      rcases i4 x hx with z | z
      · rcases n2 x z with q | q
        · exact .inr (by rw [q]; exact List.mem_cons_self)
        · exact .inl q
      · exact .inr (List.mem_cons_of_mem _ z)
theorem keys_rep : ∀ {l : List (Key × V)}, (∀ x ∈ l.map (·.1), Rep c w H (kD x) (kV x)) → RepL c w H (l.map fun p => kD p.1) (l.map fun p => kV p.1)
  | [], _ => RepL.nil
  | p :: l, h => RepL.cons (h p.1 (by simp)) (keys_rep fun x hx => h x (by simp only [List.map_cons, List.mem_cons]; exact .inr hx))
theorem pairs_rep : ∀ {xs : List D} {ks es : List D} {vs : List V}, pairsOf xs = some (ks, es) → RepL c w H xs vs →
    ∃ (ps : List Addr) (kvs : List (Key × V)), vs = ps.map V.ref ∧ Paired (fun p kv => SqT c.K H p [kV kv.1, kv.2]) ps kvs ∧ ks = kvs.map (fun p => kD p.1) ∧ RepL c w H es (kvs.map (·.2)) ∧ (∀ x ∈ kvs.map (·.1), Rep c w H (kD x) (kV x)) ∧ kvs.length = xs.length
  | [], ks, es, vs, h, r => by
    simp only [pairsOf, Option.some.injEq, Prod.mk.injEq] at h
    obtain ⟨rfl, rfl⟩ := h
    simp only [RepL] at r
    subst r
    exact ⟨[], [], rfl, .nil, rfl, RepL.nil, by simp, rfl⟩
  | x :: xs, ks, es, vs, h, r => by
    obtain ⟨v, q, rfl, r1, r2⟩ := r.uncons
    unfold pairsOf at h
    split at h
    · rename_i he
      cases he
    · rename_i k d xs' he
      cases he
      split at h
      · rename_i hk
        obtain ⟨⟨ks', es'⟩, hp, he⟩ := Option.map_eq_some_iff.mp h
        simp only [Prod.mk.injEq] at he
        obtain ⟨rfl, rfl⟩ := he
        obtain ⟨ps, kvs, rfl, i2, i3, i4, i5, i6⟩ := pairs_rep hp r2
        obtain ⟨a, ws, rfl, hq, z, rr⟩ := rep_tup.mp r1
        obtain ⟨y1, y2, rfl, g1, g2⟩ := rep2 rr
        obtain ⟨kk, rfl, rfl⟩ := key1_ok hk g1
        refine ⟨a :: ps, (kk, y2) :: kvs, rfl, .cons hq.sq i2, by rw [i3]; rfl, RepL.cons g2 i4, fun x hx => ?_, by simp [i6]⟩
        simp only [List.map_cons, List.mem_cons] at hx
        rcases hx with z | z
        · rw [z]; exact g1
        · exact i5 x z
      · cases h
    · cases h
theorem new_merge {kvs : List (Key × V)} {es : List D} {p : Addr} {Q : VK} {E : XK} (S : Sim c w M H) (re : RepL c w H es (kvs.map (·.2))) (hk : ∀ x ∈ kvs.map (·.1), Rep c w H (kD x) (kV x)) (hl : kvs.length ≤ sizeLine) (hp : H p = none)
    (h : OkG c (Rep c) w H (.ok (.ref M.length) (M ++ [.dic .one (mergeD (kvs.map fun p => kD p.1) es ([], [])).1 (mergeD (kvs.map fun p => kD p.1) es ([], [])).2])) Q E) : Q (.ref p) (upd H p (.dK (mergeK [] kvs))) := by
  obtain ⟨m1, m2, m3, m4⟩ := merge_ok kvs es re [] [] List.nodup_nil RepL.nil
  simp only [List.map_nil] at m1 m2
  have s1 : Stp w H (w.push p) (upd H p (.dK (mergeK [] kvs))) := Stp.push hp
  have ll : (mergeK [] kvs).length ≤ kvs.length := by
    have := length_mergeK kvs []
    simpa using this
  refine h (w.push p) _ _ s1 (S.push hp ⟨?_, ?_, mergeK [] kvs, upd_same, m3, m1, ?_, RepL.mono s1 _ _ m2⟩) (rep_ref.mpr ⟨p, rfl, ?_⟩)
  · rw [m1, m2.len]; simp
  · rw [m1, List.length_map]; omega
  · rw [m1]
    refine RepL.mono s1 _ _ (keys_rep fun x hx => ?_)
    rcases m4 x hx with z | z
    · cases z
    · exact hk x z
  · show (w.ι ++ [p])[M.length]? = some p
    rw [← S.len]
    exact List.getElem?_concat_length
theorem put_repM {i : Nat} {a b : Addr} {kvs : List (List Key × V)} {xs : List (List Key × Addr × Value)} {k : List Key} {vs : List D} {d : D} {v : V} {u : Value} (dm : DMat c.K H a kvs xs) (r1 : ∀ q ∈ xs, Rep c w H (.tup (q.1.map kD)) (.ref q.2.1)) (rv : RepL c w H vs (kvs.map (·.2))) (hi : w.ι[i]? = some a)
    (hk : k.all isI = true) (rk : Rep c w H (.tup (k.map kD)) (.ref b)) (rd : Rep c w H d v) (ru : RelV v u) (hl : kvs.length < sizeLine) :
    RepO c w (upd H a (dM a (storedH xs k b u))) a (.dic .tup (Fw.putK (.tup (k.map kD)) d (kvs.map fun p => D.tup (p.1.map kD)) vs).1 (Fw.putK (.tup (k.map kD)) d (kvs.map fun p => D.tup (p.1.map kD)) vs).2) := by
  obtain ⟨p1, p2, p3⟩ := put_ok (c := c) (w := w) (H := H) (f := fun k : List Key => D.tup (k.map kD)) (fun a b => by simp only [eqD]; exact eqL_kD a b) (k := k) rd dm.nd rv
  obtain ⟨n1, n2⟩ := put_keys (k := k) (v := v) dm.nd
  have s : Stp w H w (upd H a (dM a (storedH xs k b u))) := Stp.write hi (nf dm.at_ trivial)
  refine ⟨?_, ?_, L2.putK kvs k v, storedH xs k b u, upd_same, dm.sm, dm.kn.put k ru, n1, fun p hp => ?_, p1, fun q hq => ?_, RepL.mono s _ _ p2⟩
  · rw [p1, p2.len]; simp
  · rw [p1, List.length_map]; omega
  · rcases n2 p.1 (List.mem_map_of_mem hp) with z | z
    · rw [z]; exact hk
    · obtain ⟨p2, hp2, ez⟩ := List.mem_map.mp z
      rw [← ez]
      exact dm.ki p2 hp2
  · refine Rep.mono s _ _ ?_
    rcases mem_storedH_key hq with ⟨y, hy, e1, e2⟩ | ⟨e1, e2⟩
    · rw [e1, e2]; exact r1 y hy
    · rw [e1, e2]; exact rk
theorem repM_list {kvs : List (List Key × V)} : kvs.map (fun p => D.tup (p.1.map kD)) = (kvs.map (·.1)).map fun k => D.tup (k.map kD) := by rw [List.map_map]; rfl
theorem merge_okM : ∀ (more : List (List Key × V)) (rs : List (List Key × Addr × Value)) (es : List D), KN more rs → (∀ p ∈ more, p.1.all isI = true) → (∀ q ∈ rs, Rep c w H (.tup (q.1.map kD)) (.ref q.2.1)) → RepL c w H es (more.map (·.2)) →
    ∀ (kvs : List (List Key × V)) (xs : List (List Key × Addr × Value)) (vs : List D), KN kvs xs → (kvs.map (·.1)).Nodup → (∀ p ∈ kvs, p.1.all isI = true) → (∀ q ∈ xs, Rep c w H (.tup (q.1.map kD)) (.ref q.2.1)) → RepL c w H vs (kvs.map (·.2)) →
    ∃ kvs' : List (List Key × V), KN kvs' (storedAllH xs rs) ∧ (kvs'.map (·.1)).Nodup ∧ (∀ p ∈ kvs', p.1.all isI = true) ∧ (∀ q ∈ storedAllH xs rs, Rep c w H (.tup (q.1.map kD)) (.ref q.2.1)) ∧
      (mergeD (more.map fun p => D.tup (p.1.map kD)) es (kvs.map (fun p => D.tup (p.1.map kD)), vs)).1 = kvs'.map (fun p => D.tup (p.1.map kD)) ∧ RepL c w H (mergeD (more.map fun p => D.tup (p.1.map kD)) es (kvs.map (fun p => D.tup (p.1.map kD)), vs)).2 (kvs'.map (·.2)) ∧ kvs'.length ≤ kvs.length + more.length
  | [], _, es, .nil, _, _, _, kvs, xs, vs, kn, nd, ki, kr, rv => ⟨kvs, kn, nd, ki, kr, rfl, rv, by simp⟩
  | p :: more, _, es, .cons (b := r) (l₂ := rs) h t, mi, mr, re, kvs, xs, vs, kn, nd, ki, kr, rv => by
    cases es with
    | nil => simp only [RepL, List.map_cons] at re; cases re
    | cons e es =>
      obtain ⟨v, q, eq, r1, r2⟩ := re.uncons
      simp only [List.map_cons, List.cons.injEq] at eq
      obtain ⟨e1, e2⟩ := eq
      subst e1 e2
      obtain ⟨p1, p2, p3⟩ := put_ok (c := c) (w := w) (H := H) (f := fun k : List Key => D.tup (k.map kD)) (fun a b => by simp only [eqD]; exact eqL_kD a b) (k := p.1) r1 nd rv
      obtain ⟨n1, n2⟩ := put_keys (k := p.1) (v := p.2) nd
      have hp : p.1.all isI = true := mi p List.mem_cons_self
      have ki2 : ∀ x ∈ L2.putK kvs p.1 p.2, x.1.all isI = true := fun x hx => by
        rcases n2 x.1 (List.mem_map_of_mem hx) with z | z
        · rw [z]; exact hp
        · obtain ⟨y, hy, ez⟩ := List.mem_map.mp z
          rw [← ez]
          exact ki y hy
      have kr2 : ∀ q ∈ storedH xs p.1 r.2.1 r.2.2, Rep c w H (.tup (q.1.map kD)) (.ref q.2.1) := fun q hq => by
        rcases mem_storedH_key hq with ⟨y, hy, e1, e2⟩ | ⟨e1, e2⟩
        · rw [e1, e2]; exact kr y hy
        · rw [e1, e2, h.1]; exact mr r List.mem_cons_self
      obtain ⟨kvs', i1, i2, i3, i4, i5, i6, i7⟩ := merge_okM more rs es t (fun x hx => mi x (List.mem_cons_of_mem _ hx)) (fun x hx => mr x (List.mem_cons_of_mem _ hx)) r2 (L2.putK kvs p.1 p.2) (storedH xs p.1 r.2.1 r.2.2) _ (kn.put p.1 h.2) n1 ki2 kr2 p2
      rw [← p1] at i5 i6
      have es' : storedAllH xs (r :: rs) = storedAllH (storedH xs p.1 r.2.1 r.2.2) rs := by rw [h.1]; rfl
      rw [es']
      exact ⟨kvs', i1, i2, i3, i4, i5, i6, by rw [List.length_cons]; omega⟩
theorem pairsM_rep : ∀ {xs : List D} {ks es : List D} {vs : List V}, pairsM xs = some (ks, es) → RepL c w H xs vs →
    ∃ (ps : List Addr) (qs : List (List Key × Addr × V)), vs = ps.map V.ref ∧ Paired (fun p q => SqT c.K H p [.ref q.2.1, q.2.2] ∧ SqT c.K H q.2.1 (q.1.map kV)) ps qs ∧ (∀ q ∈ qs, q.1.all isI = true) ∧ ks = qs.map (fun q => D.tup (q.1.map kD)) ∧ RepL c w H es (qs.map (·.2.2)) ∧ (∀ q ∈ qs, Rep c w H (.tup (q.1.map kD)) (.ref q.2.1)) ∧ qs.length = xs.length
  | [], ks, es, vs, h, r => by
    simp only [pairsM, Option.some.injEq, Prod.mk.injEq] at h
    obtain ⟨rfl, rfl⟩ := h
    simp only [RepL] at r
    subst r
    exact ⟨[], [], rfl, .nil, by simp, rfl, RepL.nil, by simp, rfl⟩
  | x :: xs, ks, es, vs, h, r => by
    obtain ⟨v, q, rfl, r1, r2⟩ := r.uncons
    unfold pairsM at h
    split at h
    · rename_i he
      cases he
    · rename_i k d xs' he
      cases he
      split at h
      · rename_i hk
        obtain ⟨⟨ks', es'⟩, hp, he⟩ := Option.map_eq_some_iff.mp h
        simp only [Prod.mk.injEq] at he
        obtain ⟨rfl, rfl⟩ := he
        obtain ⟨ps, qs, rfl, i2, i3, i4, i5, i6, i7⟩ := pairsM_rep hp r2
        obtain ⟨a, ws, rfl, hq, z, rr⟩ := rep_tup.mp r1
        obtain ⟨y1, y2, rfl, g1, g2⟩ := rep2 rr
        obtain ⟨kk, b, rfl, rfl, hi, eb⟩ := keyI_ok (show kindK .tup k = true from hk) g1
        refine ⟨a :: ps, (kk, b, y2) :: qs, rfl, .cons ⟨hq.sq, eb⟩ i2, fun x hx => ?_, by rw [i4]; rfl, RepL.cons g2 i5, fun x hx => ?_, by simp [i7]⟩
        · rcases List.mem_cons.mp hx with e | hx
          · rw [e]; exact hi
          · exact i3 x hx
        · rcases List.mem_cons.mp hx with e | hx
          · rw [e]; exact g1
          · exact i6 x hx
      · cases h
    · cases h
end
end Fw
namespace Fw
open PySem PySem.Calls PyProof.Rows PyProof.V PySem.Spec
theorem zip_no_len : typeLookup (.type "zip") "__len__" = pure none := am_miss_of_fast (by decide +kernel)
theorem zip_no_hint : typeLookup (.type "zip") "__length_hint__" = pure none := am_miss_of_fast (by decide +kernel)
structure ZAt (S : Addr) (h : Heap) (z TI TO i1 i2 l1 l2 : Addr) (k : Nat) (xs ys : Array Value) : Prop where
  ti : IsPair h TI (.ref i1) (.ref i2)
  r1 : h.IsListIter i1 l1 k
  r2 : h.IsListIter i2 l2 k
  p1 : h.IsList l1 xs
  p2 : h.IsList l2 ys
  st : (IsZip h z TI TO .none ∧ ∃ a b, IsPair h TO a b) ∨ ∃ T f oT, IsZipHeld h z TI TO T f ∧ h.get? T = some oT ∧ S < T
structure LzG (xs ys : Array Value) (lo : Addr) (h : Heap) (as : List Addr) : Prop where
  rise : as.Pairwise (· < ·)
  above : ∀ a ∈ as, lo < a
  pairs : ∀ (j : Nat) (a : Addr), as[j]? = some a → ∃ x y, xs[j]? = some x ∧ ys[j]? = some y ∧ IsPair h a x y
theorem LzG.there {xs ys : Array Value} {lo : Addr} {h : Heap} {as : List Addr} (g : LzG xs ys lo h as) {a : Addr} (ha : a ∈ as) : a < h.objs.size := by
  obtain ⟨j, hj⟩ := List.mem_iff_getElem?.mp ha
  obtain ⟨_, _, _, _, e⟩ := g.pairs j a hj
  exact Heap.lt_size e
structure ZLow (S z TI TO i1 i2 l1 l2 : Addr) : Prop where
  z : z < S
  ti : TI < S
  to_ : TO < S
  i1 : i1 < S
  i2 : i2 < S
  l1 : l1 < S
  l2 : l2 < S
section
variable {prog : Program} {w : World} {A : Around} {E : Value → Shared → Prop} {s : Shared} {S z TI TO i1 i2 l1 l2 : Addr} {xs ys : Array Value}
theorem ZAt.keep {h h' : Heap} {k : Nat} (a : ZAt S h z TI TO i1 i2 l1 l2 k xs ys) (L : ZLow S z TI TO i1 i2 l1 l2) (up : ∀ b o, b ≠ S → h.get? b = some o → h'.get? b = some o) : ZAt S h' z TI TO i1 i2 l1 l2 k xs ys := by
  refine ⟨up _ _ (Nat.ne_of_lt L.ti) a.ti, a.r1.at fun o => up _ o (Nat.ne_of_lt L.i1), a.r2.at fun o => up _ o (Nat.ne_of_lt L.i2), a.p1.at fun o => up _ o (Nat.ne_of_lt L.l1), a.p2.at fun o => up _ o (Nat.ne_of_lt L.l2), ?_⟩
  rcases a.st with ⟨q, x, y, p⟩ | ⟨T, f, oT, q, p, n⟩
  · exact .inl ⟨up _ _ (Nat.ne_of_lt L.z) q, x, y, up _ _ (Nat.ne_of_lt L.to_) p⟩
  · exact .inr ⟨T, f, oT, up _ _ (Nat.ne_of_lt L.z) q, up _ _ (Nat.ne_of_gt n) p, n⟩
theorem lz_item {k : Nat} {Q : Option Value → Shared → Prop} (D : ZipApart z TI TO i1 i2 l1 l2) (L : ZLow S z TI TO i1 i2 l1 l2) (a : ZAt S s.heap z TI TO i1 i2 l1 l2 k xs ys) (hS : S < s.heap.objs.size) {x y : Value} (hx : xs[k]? = some x) (hy : ys[k]? = some y)
    (hQ : ∀ h', ZAt S h' z TI TO i1 i2 l1 l2 (k + 1) xs ys → IsPair h' s.heap.objs.size x y → h'.objs.size = s.heap.objs.size + 1 → (∀ c o, c ≠ z → c ≠ TO → c ≠ i1 → c ≠ i2 → s.heap.get? c = some o → h'.get? c = some o) → Q (some (.ref s.heap.objs.size)) { s with heap := h' }) :
    wpAny (model prog w) A (pyNext (.ref z)) Q E s := by
  rcases a.st with ⟨q, u, v, p⟩ | ⟨T, f, oT, q, p, n⟩
  · refine wpAny_pyNext_zip_item D q a.ti p a.r1 a.r2 a.p1 a.p2 hx hy fun h' b1 b2 b3 b4 b5 b6 b7 => ?_
    refine hQ h' ⟨b7 _ _ D.TIz D.TITO D.TIi1 D.TIi2 a.ti, b3, b4, a.p1.at fun o => b7 _ o D.l1z D.l1TO D.l1i1 D.l1i2, a.p2.at fun o => b7 _ o D.l2z D.l2TO D.l2i1 D.l2i2, .inr ⟨s.heap.objs.size, false, _, b1, b5, hS⟩⟩ b5 b6 b7
  · have hTO : ∀ c o, c ≠ z → c ≠ TO → c ≠ i1 → c ≠ i2 → s.heap.get? c = some o → True := fun _ _ _ _ _ _ _ => trivial
    refine wpAny_pyNext_zip_item_held D q p a.ti a.r1 a.r2 a.p1 a.p2 hx hy fun h' b1 b3 b4 b5 b6 b7 => ?_
    have nT : T ≠ z ∧ T ≠ i1 ∧ T ≠ i2 := ⟨Nat.ne_of_gt (Nat.lt_trans L.z n), Nat.ne_of_gt (Nat.lt_trans L.i1 n), Nat.ne_of_gt (Nat.lt_trans L.i2 n)⟩
    exact hQ h' ⟨b7 _ _ D.TIz D.TIi1 D.TIi2 a.ti, b3, b4, a.p1.at fun o => b7 _ o D.l1z D.l1i1 D.l1i2, a.p2.at fun o => b7 _ o D.l2z D.l2i1 D.l2i2, .inr ⟨T, true, oT, b1, b7 _ _ nT.1 nT.2.1 nT.2.2 p, n⟩⟩ b5 b6 fun c o c1 _ c3 c4 => b7 c o c1 c3 c4
theorem lz_done {k : Nat} {Q : Option Value → Shared → Prop} (hh : A.handled = none) (D : ZipApart z TI TO i1 i2 l1 l2) (a : ZAt S s.heap z TI TO i1 i2 l1 l2 k xs ys) (hend : xs[k]? = none ∨ ys[k]? = none)
    (hQ : ∀ h', (∀ c o, c ≠ z → c ≠ TO → c ≠ i1 → c ≠ i2 → s.heap.get? c = some o → h'.get? c = some o) → Q none { s with heap := h' }) : wpAny (model prog w) A (pyNext (.ref z)) Q E s := by
  rcases a.st with ⟨q, u, v, p⟩ | ⟨T, f, oT, q, p, n⟩
  · exact wpAny_pyNext_zip_end hh D q a.ti p a.r1 a.r2 a.p1 a.p2 hend hQ
  · exact wpAny_pyNext_zip_end_held hh D q p a.ti a.r1 a.r2 a.p1 a.p2 hend fun h' b => hQ h' fun c o c1 _ c3 c4 => b c o c1 c3 c4
theorem lz_loop {R : Result → Shared → Prop} (hh : A.handled = none) (D : ZipApart z TI TO i1 i2 l1 l2) (L : ZLow S z TI TO i1 i2 l1 l2) (hn : min xs.size ys.size ≤ sizeLine) (res : Value) {h₁ : Heap}
    (hR : ∀ h' tk acc c as, (∀ b o, b ≠ S → b ≠ z → b ≠ TO → b ≠ i1 → b ≠ i2 → h₁.get? b = some o → h'.get? b = some o) → h'.get? S = some { cls := .type "list", dict := none, data := .seq acc c, slots := #[] } → as.length = min xs.size ys.size → LzG xs ys S h' as →
      acc.toList = as.map Value.ref → R (.ok (.ret res)) { s with heap := h', toks := tk }) :
    ∀ (k i : Nat) (h : Heap) (tk c : Nat) (acc : Array Value) (as : List Addr), min xs.size ys.size - i = k → i ≤ min xs.size ys.size → ZAt S h z TI TO i1 i2 l1 l2 i xs ys → (∀ b o, b ≠ S → b ≠ z → b ≠ TO → b ≠ i1 → b ≠ i2 → h₁.get? b = some o → h.get? b = some o) →
      h.get? S = some { cls := .type "list", dict := none, data := .seq acc c, slots := #[] } → acc.toList = as.map Value.ref → as.length = i → LzG xs ys S h as →
      codeAny (model prog w) A (.builtin "list.extend.loop" ⟨[.ref S, .ref z, res], []⟩) R { s with heap := h, toks := tk } := by
  intro k
  have nz := Nat.ne_of_gt L.z
  have nTO := Nat.ne_of_gt L.to_
  have ni1 := Nat.ne_of_gt L.i1
  have ni2 := Nat.ne_of_gt L.i2
  induction k with
  | zero =>
    intro i h tk c acc as hk hi hst hkeep hS hacc hal hG
    have hin : i = min xs.size ys.size := by omega
    refine codeAny_builtin PySem.F.entry_extend_loop ?_
    rw [Around.under_plainId PySem.F.plain_extend_loop _]
    show wpAny _ A.in1 (pyNext (.ref z) >>= _) _ _ _
    have hend : xs[i]? = none ∨ ys[i]? = none := by
      rcases Nat.le_total xs.size ys.size with q | q
      · exact .inl (Array.getElem?_eq_none (by omega))
      · exact .inr (Array.getElem?_eq_none (by omega))
    refine wpAny_bind (lz_done (s := { s with heap := h, toks := tk }) (A := A.in1) hh D hst hend fun h' he => ?_)
    have hab : ∀ a ∈ as, a ≠ z ∧ a ≠ TO ∧ a ≠ i1 ∧ a ≠ i2 := fun a ha => by
      have := hG.above a ha
      exact ⟨Nat.ne_of_gt (Nat.lt_trans L.z this), Nat.ne_of_gt (Nat.lt_trans L.to_ this), Nat.ne_of_gt (Nat.lt_trans L.i1 this), Nat.ne_of_gt (Nat.lt_trans L.i2 this)⟩
    refine wpAny_pure (hR h' tk acc c as (fun b o h1 h2 h3 h4 h5 e => he b o h2 h3 h4 h5 (hkeep b o h1 h2 h3 h4 h5 e)) (he S _ nz nTO ni1 ni2 hS) (by omega) ⟨hG.rise, hG.above, fun j a hj => ?_⟩ hacc)
    obtain ⟨x, y, e1, e2, e3⟩ := hG.pairs j a hj
    obtain ⟨n1, n2, n3, n4⟩ := hab a (List.mem_of_getElem? hj)
    exact ⟨x, y, e1, e2, he a _ n1 n2 n3 n4 e3⟩
  | succ k ih =>
    intro i h tk c acc as hk hi hst hkeep hS hacc hal hG
    have hlt : i < min xs.size ys.size := by omega
    have hsz : acc.size = i := by rw [← Array.length_toList, hacc, List.length_map, hal]
    have hx : xs[i]? = some xs[i] := Array.getElem?_eq_getElem (by omega)
    have hy : ys[i]? = some ys[i] := Array.getElem?_eq_getElem (by omega)
    refine codeAny_builtin PySem.F.entry_extend_loop ?_
    rw [Around.under_plainId PySem.F.plain_extend_loop _]
    show wpAny _ A.in1 (pyNext (.ref z) >>= _) _ _ _
    refine wpAny_bind (lz_item (s := { s with heap := h, toks := tk }) D L hst (Heap.lt_size hS) hx hy fun h' hst' ht hz hkp => ?_)
    dsimp only at ht hz hkp ⊢
    have hS' := hkp S _ nz nTO ni1 ni2 hS
    have up : ∀ b o, b ≠ S → h'.get? b = some o → (h'.update S (Obj.mapSeq (·.push (Value.ref h.objs.size)))).get? b = some o := fun b o hb e => (Heap.get?_update_other _ _ (Ne.symm hb)).trans e
    have hSl : S < h.objs.size := Heap.lt_size hS
    show wpAny _ A.in1 (updateSeq S (·.push (Value.ref h.objs.size)) >>= _) _ _ _
    refine wpAny_bind ?_
    refine wpAny_updateSeq hS' rfl (wpAny_pure ⟨plainId_quiet PySem.F.plain_extend_loop _, ih (i + 1) _ tk _ (acc.push (Value.ref h.objs.size)) (as ++ [h.objs.size]) (by omega) hlt (hst'.keep L up)
      (fun b o h1 h2 h3 h4 h5 e => up b o h1 (hkp b o h2 h3 h4 h5 (hkeep b o h1 h2 h3 h4 h5 e))) (Heap.get?_update_self _ hS' rfl) (by rw [Array.toList_push, hacc, List.map_append]; rfl) (by rw [List.length_append, hal]; rfl) ⟨?_, ?_, ?_⟩⟩) (by rw [hsz]; omega) (by show (acc.push (Value.ref h.objs.size)).size ≤ sizeLine + 1; rw [Array.size_push, hsz]; omega)
    · refine List.pairwise_append.mpr ⟨hG.rise, List.pairwise_singleton _ _, fun a ha b hb => ?_⟩
      rw [List.mem_singleton.mp hb]
      exact hG.there ha
    · intro a ha
      rcases List.mem_append.mp ha with ha | ha
      · exact hG.above a ha
      · rw [List.mem_singleton.mp ha]; exact hSl
    · intro j b hj
      rcases Nat.lt_trichotomy j as.length with h1 | h1 | h1
      · rw [List.getElem?_append_left h1] at hj
        obtain ⟨x, y, e1, e2, e3⟩ := hG.pairs j b hj
        have hb := hG.above b (List.mem_of_getElem? hj)
        exact ⟨x, y, e1, e2, up b _ (Nat.ne_of_gt hb) (hkp b _ (Nat.ne_of_gt (Nat.lt_trans L.z hb)) (Nat.ne_of_gt (Nat.lt_trans L.to_ hb)) (Nat.ne_of_gt (Nat.lt_trans L.i1 hb)) (Nat.ne_of_gt (Nat.lt_trans L.i2 hb)) e3)⟩
      · subst h1
        have hb : h.objs.size = b := by simpa using hj
        subst hb
        exact ⟨_, _, by rw [hal]; exact hx, by rw [hal]; exact hy, up _ _ (Nat.ne_of_gt hSl) ht⟩
      · have hnone : (as ++ [h.objs.size])[j]? = none := List.getElem?_eq_none (by rw [List.length_append, List.length_singleton]; omega)
        rw [hnone] at hj; cases hj
theorem lz_hint (hT : s.TypeIs (.ref z) "zip") {Q : Bool → Shared → Prop} (h : Q true s) : wpAny (model prog w) A (Builtin.List.listLengthHint (.ref z)) Q E s := by
  unfold Builtin.List.listLengthHint
  refine wpAny_bind (wpAny_specialOf hT zip_no_len ?_)
  refine wpAny_ite_split (fun hab => absurd hab (by decide)) (fun _ => ?_)
  refine wpAny_ite_split (fun hab => absurd hab (by decide)) (fun _ => ?_)
  refine wpAny_bind (wpAny_specialOf hT zip_no_hint ?_)
  exact wpAny_pure h
theorem lz_extend {R : Result → Shared → Prop} (hh : A.handled = none) (D : ZipApart z TI TO i1 i2 l1 l2) (L : ZLow S z TI TO i1 i2 l1 l2) (a : ZAt S s.heap z TI TO i1 i2 l1 l2 0 xs ys) (hz : IsZip s.heap z TI TO .none) (res : Value) (c₀ : Nat) (hS : s.heap.get? S = some { cls := .type "list", data := .seq #[] c₀ })
    (hR : ∀ h' tk acc c as, (∀ b o, b ≠ S → b ≠ z → b ≠ TO → b ≠ i1 → b ≠ i2 → s.heap.get? b = some o → h'.get? b = some o) → h'.get? S = some { cls := .type "list", dict := none, data := .seq acc c, slots := #[] } → as.length = min xs.size ys.size → LzG xs ys S h' as →
      acc.toList = as.map Value.ref → R (.ok (.ret res)) { s with heap := h', toks := tk }) (hn : min xs.size ys.size ≤ sizeLine) :
    wpAny (model prog w) A.in1 (Builtin.List.listExtendWith (.ref S) (.ref z) res)
      (fun fin s' => match fin with | .done f => R (.ok f) s' | .again c' => c'.quiet = true ∧ codeAny (model prog w) A c' R s') (fun e s' => R (.error e) s') s := by
  have hT : s.TypeIs (.ref z) "zip" := ⟨_, hz, rfl⟩
  unfold Builtin.List.listExtendWith
  refine wpAny_bind (wpAny_typeOf (T := "zip") hT ?_)
  have h1 : Builtin.List.listSameRef (.ref S) (.ref z) = false := by simp [Builtin.List.listSameRef, Nat.ne_of_gt L.z]
  have h2 : (Value.type "zip" == Value.type "list") = false := by decide
  have h3 : (Value.type "zip" == Value.type "tuple") = false := by decide
  simp only [h1, h2, h3, Bool.or_false, Bool.false_eq_true, if_false]
  refine wpAny_bind (wpAny_pyIter_zip hz ?_)
  refine wpAny_bind (wpAny_holding (lz_hint hT ?_))
  rw [if_pos (by simp)]
  refine wpAny_bind (wpAny_rule ?_)
  refine wpAny_bind ?_
  show wpAny _ _ (updateSeq S (·.push .none) >>= fun _ => updateSeq S (·.pop)) _ _ _
  refine wpAny_bind (wpAny_updateSeq hS rfl ?_)
  have hS₂ := Heap.get?_update_self (Obj.mapSeq (·.push Value.none)) hS rfl
  refine wpAny_updateSeq (hz := by seq_fits) hS₂ rfl ?_
  have hS₃ := Heap.get?_update_self (Obj.mapSeq (·.pop)) hS₂ rfl
  have up : ∀ b o, b ≠ S → s.heap.get? b = some o → ((s.heap.update S (Obj.mapSeq (·.push Value.none))).update S (Obj.mapSeq (·.pop))).get? b = some o := fun b o hb e => (Heap.get?_update_other _ _ (Ne.symm hb)).trans ((Heap.get?_update_other _ _ (Ne.symm hb)).trans e)
  refine wpAny_pure ⟨plainId_quiet PySem.F.plain_extend_loop _, ?_⟩
  exact lz_loop (s := s) (h₁ := s.heap) hh D L hn res hR _ 0 _ _ _ #[] [] rfl (Nat.zero_le _) (a.keep L up) (fun b o h1 _ _ _ _ e => up b o h1 e) hS₃ rfl rfl ⟨List.Pairwise.nil, (fun _ ha => nomatch ha), (fun j a hj => by simp at hj)⟩
theorem lz_call {Q : Value → Shared → Prop} (hh : A.handled = none) (D : ZipApart z TI TO i1 i2 l1 l2) (L : ZLow s.heap.objs.size z TI TO i1 i2 l1 l2) (a : ZAt s.heap.objs.size s.heap z TI TO i1 i2 l1 l2 0 xs ys) (hz : IsZip s.heap z TI TO .none) (hn : min xs.size ys.size ≤ sizeLine)
    (hQ : ∀ h' tk acc c as, (∀ b o, b ≠ z → b ≠ TO → b ≠ i1 → b ≠ i2 → s.heap.get? b = some o → h'.get? b = some o) → h'.get? s.heap.objs.size = some { cls := .type "list", dict := none, data := .seq acc c, slots := #[] } → as.length = min xs.size ys.size → LzG xs ys s.heap.objs.size h' as →
      acc.toList = as.map Value.ref → Q (.ref s.heap.objs.size) { s with heap := h', toks := tk }) :
    wpAny (model prog w) A (call (.type "list") [.ref z]) Q E s := by
  refine callType_codes (Q₁ := fun obj s₁ => obj = .ref s.heap.objs.size ∧ s₁ = { s with heap := s.heap.push { cls := .type "list", data := .seq #[] } }) PySem.F.called_list (PySem.F.typeCall_list_1 _) PySem.F.entry_list_init
    (code_list_new _ ⟨rfl, rfl⟩) fun obj s₁ h₁ => ?_
  obtain ⟨rfl, rfl⟩ := h₁
  have hS : (s.heap.push { cls := .type "list", data := .seq #[] }).get? s.heap.objs.size = some { cls := .type "list", data := .seq #[] } := Heap.get?_push_size _ rfl
  refine ⟨⟨_, hS, rfl⟩, PySem.F.args_list_init_2 _ _, ?_⟩
  show wpAny _ _ (do let old ← Builtin.List.listItems (.ref s.heap.objs.size); Builtin.List.listUpdate (.ref s.heap.objs.size) (fun _ => #[]); letGo old.toList.reverse; Builtin.List.listExtendWith (.ref s.heap.objs.size) (.ref z) .none) _ _ _
  refine wpAny_bind ?_
  unfold Builtin.List.listItems
  refine wpAny_bind (wpAny_seqItems hS rfl (wpAny_pure ?_))
  show wpAny _ _ (updateSeq s.heap.objs.size (fun _ => #[]) >>= fun _ => letGo (#[] : Array Value).toList.reverse >>= fun _ => Builtin.List.listExtendWith (.ref s.heap.objs.size) (.ref z) .none) _ _ _
  refine wpAny_bind (wpAny_updateSeq hS rfl ?_)
  have hS₂ := Heap.get?_update_self (Obj.mapSeq (fun _ => (#[] : Array Value))) hS rfl
  have oth : ∀ b o, b ≠ s.heap.objs.size → s.heap.get? b = some o → ((s.heap.push { cls := .type "list", data := .seq #[] }).update s.heap.objs.size (Obj.mapSeq (fun _ => (#[] : Array Value)))).get? b = some o :=
    fun b o hb e => (Heap.get?_update_other _ _ (Ne.symm hb)).trans (Heap.get?_push_of_some _ e)
  refine wpAny_bind (wpAny_letGo ?_)
  refine lz_extend (A := A.in1) hh D L (a.keep L oth) (oth _ _ (Nat.ne_of_lt L.z) hz) .none _ hS₂ (fun h' tk acc c as hk hS' hl hG hacc => ?_) hn
  exact ⟨rfl, hQ h' tk acc c as (fun b o h1 h2 h3 h4 e => hk b o (Nat.ne_of_lt (Heap.lt_size e)) h1 h2 h3 h4 (oth b o (Nat.ne_of_lt (Heap.lt_size e)) e)) hS' hl hG hacc⟩
end
end Fw
namespace Fw
open PySem PySem.Spec PyProof.Rows L2
def updT (H : Hp) : List Addr → List (V × V) → Hp
  | p :: ps, q :: qs => upd (updT H ps qs) p (.tup [q.1, q.2])
  | _, _ => H
theorem updT_old {H : Hp} {b : Addr} : ∀ {ps : List Addr} {qs : List (V × V)}, b ∉ ps → updT H ps qs b = H b
  | [], _, _ => by simp [updT]
  | _ :: _, [], _ => by simp [updT]
  | p :: ps, q :: qs, h => by
    rw [updT, upd_ne (fun z => h (by rw [z]; exact List.mem_cons_self)), updT_old fun z => h (List.mem_cons_of_mem _ z)]
theorem updT_new {H : Hp} : ∀ {ps : List Addr} {qs : List (V × V)} {j : Nat} {p : Addr} {q : V × V}, ps.Nodup → ps[j]? = some p → qs[j]? = some q → updT H ps qs p = some (.tup [q.1, q.2])
  | [], _, _, _, _, _, e, _ => by simp at e
  | _ :: _, [], _, _, _, _, _, e => by simp at e
  | p :: ps, q :: qs, 0, p', q', _, e1, e2 => by
    simp at e1 e2
    subst e1 e2
    rw [updT, upd_same]
  | p :: ps, q :: qs, j + 1, p', q', hn, e1, e2 => by
    rw [List.nodup_cons] at hn
    simp at e1 e2
    rw [updT, upd_ne (fun z => hn.1 (by rw [← z]; exact List.mem_of_getElem? e1)), updT_new hn.2 e1 e2]
section
variable {X : Cx} {pins : List (Addr × Obj)} {σ : L2.St} {H H' : Hp} {s : Shared} {h' : Heap}
theorem inv_many {t' : Nat} (I : Inv X pins σ H s) (k : ∀ b u, s.heap.get? b = some u → h'.get? b = some u) (same : ∀ b, H b ≠ none → H' b = H b) (new : ∀ b o, H b = none → H' b = some o → s.heap.objs.size ≤ b ∧ ObjOk X.prog X.w H' h' b o) :
    Inv X pins σ H' { s with heap := h', toks := t' } := by
  have st : ∀ b o, H b = some o → H' b = some o := fun b o e => by rw [same b (by rw [e]; simp)]; exact e
  refine I.un ⟨fun b u q _ _ _ => k b u q, fun b u q _ _ _ => ⟨u.slots, k b u q⟩, fun b u q n _ => ?_, fun b u q _ => ⟨u, k b u q⟩, fun b xs q => st _ _ q, fun b u xs q => st _ _ q, fun b ps q => ⟨#[], by rw [st _ _ q]; simp⟩⟩ fun b o e => ?_
  · cases e : H' b with
    | none => rfl
    | some o =>
      exact absurd (Heap.lt_size q) (Nat.not_lt.mpr (new b o n e).1)
  · cases q : H b with
    | none => exact (new b o q e).2
    | some u =>
      rw [st b u q] at e
      cases e
      exact (I.hok b _ q).stay (fun c v _ z => k c v z) (fun c z => st _ _ z) fun c xs z => st _ _ z
theorem vals_at : ∀ {xs : List V} {us : List Value} {i : Nat} {u : Value}, Vals xs us → us[i]? = some u → ∃ x, xs[i]? = some x ∧ RelV x u
  | _, _, i, u, .nil, e => by simp at e
  | _, _, 0, u, .cons h t, e => by
    simp at e
    subst e
    exact ⟨_, rfl, h⟩
  | _, _, i + 1, u, .cons h t, e => by
    simp at e
    obtain ⟨x, e1, r⟩ := vals_at t e
    exact ⟨x, by simpa using e1, r⟩
theorem vals_refsZ : ∀ {as : List Addr}, Vals (as.map V.ref) (as.map Value.ref)
  | [] => .nil
  | _ :: as => .cons rfl vals_refsZ
theorem pe_lzip {e e2 : Expr} {ta : TA} {p p2 pos pos2 : Pos} (hc : X.calm = true) (hg : Gl X "list") (hm : X.mg "list" = none) (hg2 : Gl X "zip") (hm2 : X.mg "zip" = none) (ha : PA X [e, e2] ta)
    (hs : starEach [e, e2] X.env = (false, eval e X.env) :: starEach [e2] X.env := by rfl) (hpl : (backTo pos2 (starEach [e2] X.env)).any (·.1) = false := by rfl) :
    PE X (.Call (.Name "list" p) [.Call (.Name "zip" p2) [e, e2] [] pos2] [] pos) (fun σ H Q => ta σ H fun vs H1 => ∃ a b xs ys, vs = [.ref a, .ref b] ∧ SqL X.K H1 a xs ∧ SqL X.K H1 b ys ∧
      ∀ (P : Addr) (ps : List Addr), ps.length = (xs.zip ys).length → H1 P = none → (∀ q ∈ ps, H1 q = none) → (P :: ps).Nodup → Q (.ref P) (upd (updT H1 ps (xs.zip ys)) P (.lst (ps.map V.ref)))) := by
  refine ⟨fun pins s σ H Q I h => ?_⟩
  refine wpAny_Call_Name_kw (ld_blt I hg hm (show bootBuiltins "list" = some (.type "list") from by decide +kernel) ?_ (by decide) (by decide))
  refine PyProof.Rows.callWith_type1 ?_
  refine Calls.spliced_cons ?_
  refine Call_ (ld_blt I hg2 hm2 PyProof.Rows.boot_zip (PyProof.Rows.callWith_type1 (thn (ha.run pos2 pins s σ H _ I h) fun us s1 ⟨vs, H1, I1, r1, q1⟩ => ?_) hs hpl))
  obtain ⟨a, b, xs, ys, ex, hqx, hqy, q⟩ := q1
  subst ex
  cases r1 with
  | cons r rr =>
    cases rr with
    | cons r' rr =>
      cases rr
      cases r
      cases r'
      obtain ⟨its, rv, p1, lx⟩ := I1.list hqx
      obtain ⟨its2, rv2, p2', ly⟩ := I1.list hqy
      have la : a < s1.heap.objs.size := p1.lt
      have lb : b < s1.heap.objs.size := p2'.lt
      refine call_zip_2 p1.isList p2'.isList fun h' hz hTI hTO h1 h2 hsz hk => ?_
      refine Calls.spliced_nil ?_
      have l1 := rv.length
      have l2 := rv2.length
      have hz' : (xs.zip ys).length = min its.toArray.size its2.toArray.size := by
        rw [List.length_zip, List.size_toArray, List.size_toArray, l1, l2]
      refine lz_call (s := { s1 with heap := h' }) (TI := s1.heap.objs.size + 2) (TO := s1.heap.objs.size + 3) (i1 := s1.heap.objs.size) (i2 := s1.heap.objs.size + 1) (l1 := a) (l2 := b) (xs := its.toArray) (ys := its2.toArray)
        (I1.ok.hd hc) (PySem.W.ktu_apart s1.heap.objs.size a b la lb) ?_ ⟨hTI, h1, h2, p1.isList.at fun o => hk _ o, p2'.isList.at fun o => hk _ o, .inl ⟨hz, _, _, hTO⟩⟩ hz ?_ fun h2' tk acc c as hkeep hS hlen hG hacc => ?_
      · show ZLow h'.objs.size _ _ _ _ _ _ _
        rw [hsz]
        exact ⟨Nat.add_lt_add_left (by decide) _, Nat.add_lt_add_left (by decide) _, Nat.add_lt_add_left (by decide) _, Nat.lt_add_of_pos_right (by decide), Nat.add_lt_add_left (by decide) _, Nat.lt_add_right 5 la, Nat.lt_add_right 5 lb⟩
      · rw [List.size_toArray]
        have := Nat.min_le_left its.length its2.toArray.size
        omega
      · dsimp only at hkeep hS hG ⊢
        have keep : ∀ b o, s1.heap.get? b = some o → h2'.get? b = some o := fun b o e => by
          have hb := Heap.lt_size e
          exact hkeep b o (Nat.ne_of_lt (Nat.lt_add_right 4 hb)) (Nat.ne_of_lt (Nat.lt_add_right 3 hb)) (Nat.ne_of_lt hb) (Nat.ne_of_lt (Nat.lt_add_right 1 hb)) (hk b o e)
        have nd : (h'.objs.size :: as).Nodup := by
          rw [List.nodup_cons]
          exact ⟨fun z => Nat.lt_irrefl _ (hG.above _ z), hG.rise.imp fun z => Nat.ne_of_lt z⟩
        have nds := (List.nodup_cons.mp nd).2
        have fS : s1.heap.objs.size ≤ h'.objs.size := by rw [hsz]; exact Nat.le_add_right _ _
        have fr : ∀ q ∈ as, s1.heap.objs.size ≤ q := fun q hq => Nat.le_trans fS (Nat.le_of_lt (hG.above q hq))
        have hlen' : as.length = (xs.zip ys).length := hlen.trans hz'.symm
        have sz : (xs.zip ys).length ≤ sizeLine := by
          rw [List.length_zip]
          have := Nat.min_le_left xs.length ys.length
          omega
        have nS : h'.objs.size ∉ as := (List.nodup_cons.mp nd).1
        refine ⟨.ref h'.objs.size, _, inv_many (t' := tk) I1 keep (H' := upd (updT H1 as (xs.zip ys)) h'.objs.size (.lst (as.map V.ref))) (fun b hb => ?_) (fun b o hn e => ?_), rfl, q h'.objs.size as hlen' (I1.hok.fresh fS) (fun x hx => I1.hok.fresh (fr x hx)) nd⟩
        · have n1 : b ≠ h'.objs.size := fun z => hb (by rw [z]; exact I1.hok.fresh fS)
          have n2 : b ∉ as := fun z => hb (I1.hok.fresh (fr b z))
          rw [upd_ne n1, updT_old n2]
        · by_cases hb : b = h'.objs.size
          · subst hb
            rw [upd_same] at e
            cases e
            refine ⟨fS, by rw [List.length_map, hlen']; exact sz, as.map Value.ref, c, vals_refsZ, ?_⟩
            rw [hS, ← hacc]
          · rw [upd_ne hb] at e
            by_cases hm : b ∈ as
            · refine ⟨fr b hm, ?_⟩
              obtain ⟨j, hj⟩ := List.mem_iff_getElem?.mp hm
              obtain ⟨u, v, e1, e2, e3⟩ := hG.pairs j b hj
              simp only [List.getElem?_toArray] at e1 e2
              obtain ⟨x, g1, g2⟩ := vals_at rv e1
              obtain ⟨y, g3, g4⟩ := vals_at rv2 e2
              have gz : (xs.zip ys)[j]? = some (x, y) := by
                rw [List.getElem?_zip_eq_some]
                exact ⟨g1, g3⟩
              rw [updT_new nds hj gz] at e
              cases e
              refine ⟨by rw [sizeLine_eq]; simp, [u, v], .cons g2 (.cons g4 .nil), ?_⟩
              exact ⟨_, e3, rfl, 0, rfl⟩
            · rw [updT_old hm, hn] at e
              cases e
end
section
variable {c : Ct} {w : Wd} {M : Hh} {H : Hp}
theorem zip_rep : ∀ {xs ys : List D} {vs us : List V} {ps : List Addr}, RepL c w H xs vs → RepL c w H ys us → Sim c w M H → ps.length = (vs.zip us).length → (∀ q ∈ ps, H q = none) → ps.Nodup →
    Stp w H w (updT H ps (vs.zip us)) ∧ Sim c w M (updT H ps (vs.zip us)) ∧ RepL c w (updT H ps (vs.zip us)) (zipL xs ys) (ps.map V.ref)
  | [], ys, vs, us, ps, r1, r2, S, hl, _, _ => by
    simp only [RepL] at r1
    subst r1
    have : ps = [] := List.eq_nil_of_length_eq_zero (by simpa using hl)
    subst this
    simp only [updT, zipL, List.map_nil]
    exact ⟨Stp.refl, S, RepL.nil⟩
  | x :: xs, [], vs, us, ps, r1, r2, S, hl, _, _ => by
    simp only [RepL] at r2
    subst r2
    have : ps = [] := List.eq_nil_of_length_eq_zero (by simpa using hl)
    subst this
    simp only [updT, zipL, List.map_nil]
    exact ⟨Stp.refl, S, RepL.nil⟩
  | x :: xs, y :: ys, vs, us, ps, r1, r2, S, hl, hf, hn => by
    obtain ⟨v, vs, rfl, g1, g2⟩ := r1.uncons
    obtain ⟨u, us, rfl, g3, g4⟩ := r2.uncons
    cases ps with
    | nil => simp at hl
    | cons p ps =>
      rw [List.nodup_cons] at hn
      obtain ⟨s1, S1, i⟩ := zip_rep g2 g4 S (by simpa using hl) (fun q hq => hf q (List.mem_cons_of_mem _ hq)) hn.2
      rw [List.zip_cons_cons, updT, zipL, List.map_cons]
      have hp : updT H ps (vs.zip us) p = none := by rw [updT_old hn.1]; exact hf p List.mem_cons_self
      have s2 : Stp w (updT H ps (vs.zip us)) w (upd (updT H ps (vs.zip us)) p (.tup [v, u])) := Stp.laid hp
      refine ⟨s1.trans s2, S1.laid hp, RepL.cons ?_ (RepL.mono s2 _ _ i)⟩
      have s3 := s1.trans s2
      exact rep_tup.mpr ⟨p, [v, u], rfl, .inl ⟨S1.fresh hp, upd_same⟩, by rw [sizeLine_eq]; simp, RepL.cons (Rep.mono s3 _ _ g1) (RepL.cons (Rep.mono s3 _ _ g3) RepL.nil)⟩
end
section
variable {c : Ct} {W : WX} {X : Cx}
theorem l_lzip {m : Bool} {e e2 : Expr} {p p2 pos pos2 : Pos} {f g : Sl → Hh → Out D} (hc : X.calm = true) (hK : X.K = c.K) (hg : Gl X "list") (hm : X.mg "list" = none) (hg2 : Gl X "zip") (hm2 : X.mg "zip" = none) (h1 : PE X e (tE c W f)) (h2 : PE X e2 (tE c W g)) (n1 : notStar e = true) (n2 : notStar e2 = true) :
    PE X (.Call (.Name "list" p) [.Call (.Name "zip" p2) [e, e2] [] pos2] [] pos) (tE c W fun σ M => (f σ M).bind fun x M1 => (g σ M1).bind fun y M2 => lzipD m x y M2) := by
  have ha := pa_cons h1 (pa_cons h2 pa_nil (star_eq n2)) (star_eq n1)
  refine (pe_lzip (pos := pos) (p := p) (p2 := p2) (pos2 := pos2) hc hg hm hg2 hm2 ha (star_eq n1) (star_any (by rw [List.all_cons, n2]; rfl))).weak fun τ H Q ⟨w, M, σ, S, RS, q⟩ => ?_
  refine (nxt S RS q).imp fun v H1 ⟨w1, M1, d, s1, S1, RS1, r1, q1⟩ => ?_
  refine (nxt S1 RS1 q1).imp fun u H2 ⟨w2, M2, d2, s2, S2, RS2, r2, q2⟩ => ?_
  unfold lzipD at q2
  split at q2
  · rename_i xs ys e1 e2'
    split at q2
    · obtain ⟨a, vs, rfl, hq, z, rr⟩ := lstOf_ok S2 e1 (Rep.mono s2 _ _ r1)
      obtain ⟨a2, us, rfl, hq2, z2, rr2⟩ := lstOf_ok S2 e2' r2
      refine ⟨a, a2, vs, us, rfl, by rw [hK]; exact hq, by rw [hK]; exact hq2, fun P ps hl hP hps hn => ?_⟩
      rw [List.nodup_cons] at hn
      obtain ⟨s3, S3, r3⟩ := zip_rep (M := M2) rr rr2 S2 hl hps hn.2
      have q3 := OkG.lift q2 s3
      exact mkL_ok S3 r3 (Nat.le_trans (by rw [zipL_len]; exact Nat.min_le_left _ _) z) q3 P (by rw [updT_old hn.1]; exact hP)
    · exact q2.elim
  · exact q2.elim
end
end Fw
namespace Fw
open PySem PySem.Spec PyProof.Rows L2
theorem dN_snoc {α : Type} [DecidableEq α] (x : α) : ∀ xs : List α, dN (xs ++ [x]) = if x ∈ xs then dN xs else dN xs + 1
  | [] => by simp [dN]
  | y :: ys => by
    have ih := dN_snoc x ys
    show (if y ∈ ys ++ [x] then dN (ys ++ [x]) else dN (ys ++ [x]) + 1) = if x ∈ y :: ys then (if y ∈ ys then dN ys else dN ys + 1) else (if y ∈ ys then dN ys else dN ys + 1) + 1
    rw [ih]
    by_cases h1 : y ∈ ys <;> by_cases h2 : x ∈ ys <;> by_cases h3 : y = x
    all_goals (try subst h3)
    all_goals (first | exact absurd h1 h2 | exact absurd h2 h1 | skip)
    all_goals simp_all
    all_goals (intro h; exact absurd h.symm h3)
theorem dN_le {α : Type} [DecidableEq α] : ∀ xs : List α, dN xs ≤ xs.length
  | [] => Nat.le_refl _
  | x :: xs => by
    have := dN_le xs
    show (if x ∈ xs then dN xs else dN xs + 1) ≤ xs.length + 1
    split <;> omega
theorem dN_map {α β : Type} [DecidableEq α] [DecidableEq β] (f : α → β) (hf : ∀ a b, f a = f b → a = b) : ∀ xs : List α, dN (xs.map f) = dN xs
  | [] => rfl
  | x :: xs => by
    have e : f x ∈ xs.map f ↔ x ∈ xs := by
      rw [List.mem_map]
      exact ⟨fun ⟨a, h, e⟩ => hf _ _ e ▸ h, fun h => ⟨x, h, rfl⟩⟩
    show (if f x ∈ xs.map f then dN (xs.map f) else dN (xs.map f) + 1) = if x ∈ xs then dN xs else dN xs + 1
    rw [dN_map f hf xs]
    by_cases h : x ∈ xs
    · rw [if_pos h, if_pos (e.mpr h)]
    · rw [if_neg h, if_neg (fun z => h (e.mp z))]
section
variable {P : Program} {w : World} {A : Around} {R : Result → Shared → Prop} {I : Addr} {fp wr : List Addr} {G : Array GenState → Array GenState → Prop} {n : Nat} {Pv : Nat → Value → Prop} {St : Nat → Shared → Prop}
def FirstS (P : Program) (w : World) (h : Heap) (S : Addr) (xs : List Str) (i : Nat) : Prop := h.SetOf (PySem.strKind P w) S (fun k => decide (k ∈ xs.take i)) (dN (xs.take i))
theorem set_texts (W : WalksS P w A.in1 I fp wr G n Pv St) (S : Addr) (hSf : S ∉ fp) (xs : List Str) (hn : xs.length = n) (hb : n + 1 < scanBound) (hv : ∀ i v, Pv i v → ∃ x t, xs[i]? = some x ∧ v = .str x t) :
    ∀ (k i : Nat) (s : Shared), n - i = k → i ≤ n → St i s → FirstS P w s.heap S xs i → (∀ s', Moved (S :: wr) G s s' → FirstS P w s'.heap S xs n → R (.ok (.ret .none)) s') →
      codeAny (model P w) A (.builtin "set.update.loop" ⟨[.ref S, .ref I], []⟩) R s := by
  have hSw : S ∉ wr := fun h => hSf (W.sub _ h)
  have hsub : ∀ b ∈ wr, b ∈ S :: wr := fun b hb => List.mem_cons_of_mem _ hb
  intro k
  induction k with
  | zero =>
    intro i s hk hi hst hS hR
    obtain rfl : i = n := by omega
    refine codeAny_builtin PyProof.Rows.F.entry_set_update_loop ?_
    rw [Around.under_plainId PyProof.Rows.F.plain_set_update_loop _]
    show wpAny _ A.in1 (pyNext (.ref I) >>= _) _ _ s
    refine wpAny_bind (W.done s _ _ hst fun s' hm => ?_)
    show wpAny _ A.in1 (ret Value.none) _ _ s'
    obtain ⟨o, es, ep, t, ho, rest⟩ := hS
    exact wpAny_pure (hR s' (hm.mono hsub) ⟨o, es, ep, t, hm.heap S _ hSw ho, rest⟩)
  | succ k ih =>
    intro i s hk hi hst hS hR
    have hlt : i < n := by omega
    refine codeAny_builtin PyProof.Rows.F.entry_set_update_loop ?_
    rw [Around.under_plainId PyProof.Rows.F.plain_set_update_loop _]
    show wpAny _ A.in1 (pyNext (.ref I) >>= _) _ _ s
    refine wpAny_bind (W.item i s _ _ hlt hst fun v s' hP hst' hm => ?_)
    obtain ⟨x, t, hx, rfl⟩ := hv i v hP
    have hS' : FirstS P w s'.heap S xs i := by
      obtain ⟨o, es, ep, tb, ho, rest⟩ := hS
      exact ⟨o, es, ep, tb, hm.heap S _ hSw ho, rest⟩
    show wpAny _ A.in1 (holding [Value.str x t] (setAdd S (.str x t)) >>= _) _ _ s'
    refine wpAny_bind (wpAny_holding ?_)
    unfold setAdd
    refine wpAny_holding ?_
    refine wpAny_bind ((PySem.strKind P w).pyHash (k := x) (strKind_is _ _ _ _) ?_)
    have room : dN (xs.take i) + 1 < scanBound := by
      have h1 := dN_le (xs.take i)
      have h2 := List.length_take_le i xs
      omega
    refine wpAny_setAddHashed_of (knd := PySem.strKind P w) (s := { s' with toks := s'.toks + 1 }) (strKind_is _ _ _ _) rfl hS' room fun h' hsb hS2 => ?_
    have ht : xs.take (i + 1) = xs.take i ++ [x] := by rw [List.take_add_one, hx]; rfl
    have hS3 : FirstS P w h' S xs (i + 1) := by
      refine SetOf_congr hS2 (fun k => ?_) ?_
      · show _ = decide (k ∈ xs.take (i + 1))
        rw [ht]
        simp [List.mem_append]
      · show _ = dN (xs.take (i + 1))
        rw [ht, dN_snoc]
        simp only [decide_eq_true_eq]
    refine wpAny_pure ⟨plainId_quiet PyProof.Rows.F.plain_set_update_loop _, ih (i + 1) _ (by omega) hlt (W.frame _ s' _ _ hst' (Nat.le_succ _) fun b hb o e => ?_) hS3 fun s'' hm2 hS4 => ?_⟩
    · rw [hsb.2 b (fun h : b = S => hSf (by rw [← h]; exact hb))]; exact e
    · refine hR s'' (Moved.trans W.gtrans ((hm.mono hsub).then_heap (Nat.le_succ _) fun b o hb e => ?_) hm2) hS4
      rw [hsb.2 b (fun h : b = S => hb (by rw [h]; exact List.mem_cons_self))]; exact e
end
section
variable {P : Program} {w : World} {A : Around} {E : Value → Shared → Prop} {s : Shared}
theorem strs_get : ∀ {us : List Value} {xs : List Str}, StrsAre us xs → ∀ (i : Nat) (v : Value), us[i]? = some v → ∃ x t, xs[i]? = some x ∧ v = .str x t
  | _, _, .nil, i, v, h => by simp at h
  | _, _, .cons n t hr, 0, v, h => by simp at h; exact ⟨_, t, rfl, h.symm⟩
  | _, _, .cons n t hr, i + 1, v, h => by
    simp only [List.getElem?_cons_succ] at h
    obtain ⟨x, t', e1, e2⟩ := strs_get hr i v h
    exact ⟨x, t', by rw [List.getElem?_cons_succ]; exact e1, e2⟩
theorem set_of_texts {l : Addr} {items : Array Value} {xs : List Str} {Q : Value → Shared → Prop} (hh : A.handled = none) (hl : s.heap.IsList l items) (hi : StrsAre items.toList xs) (hb : xs.length + 1 < scanBound)
    (h : ∀ (h' : Heap) (tk : Nat), FirstS P w h' s.heap.objs.size xs xs.length → (∀ b o, b < s.heap.objs.size → s.heap.get? b = some o → h'.get? b = some o) → Q (.ref s.heap.objs.size) { s with heap := h', toks := tk }) :
    wpAny (model P w) A (call (.type "set") [.ref l]) Q E s := by
  have hisz : items.size = xs.length := by rw [← StrsAre.len_eq hi, Array.length_toList]
  obtain ⟨c, tl, hmro⟩ := PySem.F.called_set.mro
  have hmade := PySem.F.called_set.made
  have hsub := PySem.F.called_set.sub
  refine wpAny_call (codeAny_of_tree ?_)
  show wpAny _ _ (callAny (.type "set") _) _ _ _
  refine wpAny_pure ⟨Code.quiet_builtin _ (by decide +kernel), codeAny_builtin PySem.F.entry_type_call ?_⟩
  rw [Around.under_plain (weight_type_call_type "set" [.ref l] []) rfl]
  have h1 := PySem.F.called_set.notType
  have h2 := PySem.F.called_set.canCreate
  have hct := PySem.F.typeCall_set_1 (.ref l)
  repeat (any_goals (first | assumption | wp_step))
  refine codeAny_mono (code_set_new_1 (.ref l) (E := E) (Q₁ := fun obj s₁ => ∃ led : Bool, obj = .ref s.heap.objs.size ∧ s₁ = { s with heap := s.heap.push { cls := .type "set", dict := none, data := .set #[] 0 (.fresh 0 0 led) } }) fun led => ⟨led, rfl, rfl⟩) fun r s₁ hr => ?_
  match r with
  | .error e => exact hr
  | .ok .next => exact hr.elim
  | .ok .brk => exact hr.elim
  | .ok .cont => exact hr.elim
  | .ok (.ret obj) =>
    obtain ⟨led, rfl, rfl⟩ := hr
    generalize hN : s.heap.push { cls := .type "set", dict := none, data := .set #[] 0 (.fresh 0 0 led) } = h0
    have hS : h0.get? s.heap.objs.size = some { cls := .type "set", dict := none, data := .set #[] 0 (.fresh 0 0 led) } := by rw [← hN]; exact Heap.get?_push_size _ rfl
    have hz : h0.objs.size = s.heap.objs.size + 1 := by rw [← hN]; exact Heap.size_push _ _
    have hold : ∀ b o, s.heap.get? b = some o → h0.get? b = some o := fun b o e => by rw [← hN]; exact Heap.get?_push_of_some _ e
    have hT : Shared.TypeIs { s with heap := h0 } (.ref s.heap.objs.size) "set" := ⟨_, hS, rfl⟩
    have hli := PySem.F.called_set.init.lookup
    have hbi := PySem.F.called_set.init.bind (.ref s.heap.objs.size)
    have hlS : l < s.heap.objs.size := by obtain ⟨ol, hol, _⟩ := hl; exact Heap.lt_size hol
    repeat (any_goals (first | assumption | wp_step))
    refine codeAny_mono (codeAny_call_builtin (R := wants (fun r s₂ => r = .none ∧ ∃ h' tk, s₂ = { s with heap := h', toks := tk } ∧ FirstS P w h' s.heap.objs.size xs xs.length ∧
        (∀ b o, b < s.heap.objs.size → s.heap.get? b = some o → h'.get? b = some o)) E) PySem.F.called_set.init.plain PySem.F.entry_set_init (check_set_init_1 hT ?_)) fun r₂ s₂ hr₂ => ?_
    · obtain ⟨⟨ocls, odict, odata, oslots⟩, hol, hcl, nl, hdl⟩ := hl
      simp only at hcl hdl
      subst hcl; subst hdl
      have hol' := hold l _ hol
      have hsls := PySem.F.sub_list_set
      have hslf := PySem.F.sub_list_frozenset
      have hne : (Value.type "list" == Value.type "dict") = false := by decide
      have hl1 : h0.IsList l items := ⟨_, hol', rfl, nl, rfl⟩
      unfold Builtin.«set.__init__» noKeywords Builtin.Frozenset.updateFrom
      generalize hPI : pyIter = PI
      wp_walk
      subst hPI
      refine wpAny_pyIter_list hl1 ?_
      refine wpAny_bind (wpAny_runValue ?_)
      have hh3 : A.in1.in1.in1.handled = none := by simp [hh]
      have hneI : l ≠ h0.objs.size := by rw [hz]; exact Nat.ne_of_lt (Nat.lt_succ_of_lt hlS)
      have hSf : s.heap.objs.size ∉ [h0.objs.size, l] := by
        rw [hz]; simp only [List.mem_cons, List.not_mem_nil, or_false, not_or]
        exact ⟨Nat.ne_of_lt (Nat.lt_succ_self _), Nat.ne_of_gt hlS⟩
      have hval : ∀ (i : Nat) (v : Value), items[i]? = some v → ∃ x t, xs[i]? = some x ∧ v = .str x t := fun i v hv => strs_get hi i v (by rw [Array.getElem?_toList]; exact hv)
      refine set_texts ((Walks.list hh3 _ l hneI items).toS) s.heap.objs.size hSf xs hisz.symm (by rw [hisz]; exact hb) hval (items.size - 0) 0 _ (by omega) (Nat.zero_le _)
        ⟨⟨_, Heap.get?_push_size _ rfl, rfl, rfl⟩, (hl1.push _)⟩ ?hS0 ?hR
      case hS0 =>
        refine SetOf_congr ((setObjOf_fresh (knd := PySem.strKind P w) led).setOf (Heap.get?_push_of_some _ hS) (by unfold scanBound; omega)) (fun _ => ?_) ?_
        · simp
        · simp [dN]
      case hR =>
        intro s' hm hS'
        obtain ⟨h', g', d', tk', os'⟩ := s'
        have eg : g' = s.gens := hm.gens
        have ed : d' = s.drawn := hm.drawn
        have eo : os' = s.os := hm.os
        subst eg; subst ed; subst eo
        show wpAny _ _ _ _ _ _
        refine wpAny_pure ?_
        show wpAny _ _ (ret Value.none) _ _ _
        refine wpAny_pure ⟨rfl, h', tk', rfl, by rw [← hisz]; exact hS', fun b o hb e => ?_⟩
        refine hm.heap b o ?_ (Heap.get?_push_of_some _ (hold b o e))
        rw [hz]; simp only [List.mem_cons, List.not_mem_nil, or_false, not_or]
        exact ⟨Nat.ne_of_lt hb, Nat.ne_of_lt (Nat.lt_succ_of_lt hb)⟩
    · match r₂ with
      | .error e => exact hr₂
      | .ok .next => exact hr₂.elim
      | .ok .brk => exact hr₂.elim
      | .ok .cont => exact hr₂.elim
      | .ok (.ret r) =>
        obtain ⟨rfl, h', tk, rfl, hS', hk'⟩ := hr₂
        repeat (any_goals (first | assumption | wp_step))
        exact h _ _ hS' hk'
end
section
variable {X : Cx}
def tLenSetN (K : PySem.W.Frag) (ta : TE) : TE := fun σ H Q => ta σ H fun x H1 => (∃ l, ∃ xs : List Str, x = .ref l ∧ SqL K H1 l (xs.map V.str) ∧ xs.length < 4000 ∧ Q (.int (dN xs : Nat)) H1) ∨
  ∃ (l : Addr) (ks : List (Addr × List Int)), x = .ref l ∧ SqL K H1 l (ks.map fun p => V.ref p.1) ∧ (∀ p ∈ ks, SqT K H1 p.1 (p.2.map V.int)) ∧ ks.length < 60 ∧ Q (.int (dN (ks.map (·.2)) : Nat)) H1
theorem dN_eq {α : Type} [DecidableEq α] : ∀ (xs ys : List α), ys.Nodup → (∀ a, a ∈ ys ↔ a ∈ xs) → ys.length = dN xs
  | [], ys, _, h => by
    cases ys with
    | nil => rfl
    | cons y ys => exact nomatch (h y).mp List.mem_cons_self
  | x :: xs, ys, n, h => by
    show ys.length = if x ∈ xs then dN xs else dN xs + 1
    by_cases hx : x ∈ xs
    · rw [if_pos hx]
      exact dN_eq xs ys n fun a => (h a).trans ⟨fun z => (List.mem_cons.mp z).elim (fun e => e ▸ hx) id, fun z => List.mem_cons_of_mem _ z⟩
    · rw [if_neg hx]
      have hm : x ∈ ys := (h x).mpr List.mem_cons_self
      have := dN_eq xs (ys.erase x) (n.erase x) fun a => by
        rw [n.mem_erase_iff, h a, List.mem_cons]
        exact ⟨fun ⟨n1, z⟩ => z.resolve_left n1, fun z => ⟨fun e => hx (e ▸ z), .inr z⟩⟩
      rw [List.length_erase_of_mem hm] at this
      have : 0 < ys.length := List.length_pos_of_mem hm
      omega
theorem pe_lenSetN {a : Expr} {ta : TE} {p p2 q pos : Pos} (hc : X.calm = true) (hu : X.A.units + 65 < cLine) (hg : Gl X "len") (hm : X.mg "len" = none) (hg2 : Gl X "set") (hm2 : X.mg "set" = none) (ha : PE X a ta)
    (na : starEach [a] X.env = (false, eval a X.env) :: starEach [] X.env) : PE X (.Call (.Name "len" p) [.Call (.Name "set" p2) [a] [] q] [] pos) (tLenSetN X.K ta) := by
  refine ⟨fun pins s σ H Q I h => ?_⟩
  refine Call_ (ld_blt I hg hm PySem.boot_len ?_)
  refine PyProof.Rows.callWith_builtin1 (PyProof.Rows.args_cons ?_ rfl) rfl rfl
  refine Call_ (ld_blt I hg2 hm2 PyProof.Rows.boot_set ?_)
  refine PyProof.Rows.callWith_type1 (PyProof.Rows.args_cons (thn (ha.run pins s σ H _ I h) fun v s1 ⟨x, H1, I1, r1, q1⟩ => PyProof.Rows.args_nil ?_) na) na rfl
  rcases q1 with ⟨l, xs, rfl, hq, h1, q1⟩ | ⟨l, ks, rfl, hq, hk, h1, q1⟩
  rotate_left
  · cases r1
    obtain ⟨its, r, pl, hz⟩ := I1.list hq
    refine call_set_tups (P := X.prog) (w := X.w) ks (I1.ok.hd hc) pl.isList (by simpa using refs_of_vals r) (fun p hp => I1.isT (hk p hp)) (by omega) ?_ fun h' tk L es ep t R g kk => ?_
    · have e : ∀ B : Around, B.in1.units = B.units + 1 := fun _ => rfl
      first | omega | (simp only [e]; omega) | (show X.A.units + 1 + 3 < cLine; omega)
    refine PyProof.Rows.args_nil ?_
    obtain ⟨o, ho, hex, hd⟩ := R.ob
    have I2 : Inv X pins σ H1 { s1 with heap := h', toks := tk } := I1.kept fun b o e => kk b o e
    have hn : es.size = dN (ks.map (·.2)) := by
      rw [SetTR.size (s := { s1 with heap := h', toks := tk }) R, ← List.length_map (f := fun p : Addr × List Int => p.2)]
      refine dN_eq _ _ R.nd fun a => ?_
      rw [List.mem_map, List.mem_map]
      refine ⟨fun ⟨p, hp, e⟩ => ⟨p, List.mem_of_mem_take (g.sub p hp), e⟩, fun ⟨p, hp, e⟩ => ?_⟩
      have := g.all p (by rw [List.take_length]; exact hp)
      rw [e] at this
      exact List.mem_map.mp this
    have hdl := dN_le (ks.map (·.2))
    rw [List.length_map] at hdl
    exact call_len_set ho hex hd (SetTR.fits (s := { s1 with heap := h', toks := tk }) R) (by rw [hn]; omega) ⟨.int (dN (ks.map (·.2)) : Nat), H1, I2.tok _, ⟨_, by rw [hn]⟩, q1⟩
  cases r1
  obtain ⟨its, r, pl, hz⟩ := I1.list hq
  have hb : xs.length + 1 < scanBound := by unfold scanBound; omega
  refine set_of_texts (I1.ok.hd hc) pl.isList (by simpa using strsAre_of r) hb fun h' tk hS hk => ?_
  refine PyProof.Rows.args_nil ?_
  unfold FirstS at hS
  rw [List.take_length] at hS
  obtain ⟨o, es, ep, t, ho, hex, hd, _, _, _, hf, hn⟩ := hS
  have I2 : Inv X pins σ H1 { s1 with heap := h', toks := tk } := I1.kept fun b o e => hk b o (Heap.lt_size e) e
  have hdl := dN_le xs
  refine call_len_set ho hex hd hf (by rw [hn] <;> unfold scanBound at hb <;> omega) ⟨.int (dN xs : Nat), H1, I2.tok _, ⟨_, by rw [hn]⟩, q1⟩
end
section
variable {c : Ct} {X : Cx} {W : WX}
theorem toS_inj (a b : List Nat) (h : toS a = toS b) : a = b := by
  injection h with h
  injection h
theorem tups_rep {w : Wd} {H : Hp} : ∀ {ds : List D} {ts : List (List Int)} {vs : List V}, tupsOf ds = some ts → RepL c w H ds vs → ∃ ks : List (Addr × List Int), vs = (ks.map fun p => V.ref p.1) ∧ (∀ p ∈ ks, SqT c.K H p.1 (p.2.map V.int)) ∧ ks.map (·.2) = ts
  | [], ts, vs, h, r => by
    simp only [RepL] at r
    subst r
    cases h
    exact ⟨[], rfl, by simp, rfl⟩
  | d :: ds, ts, vs, h, r => by
    obtain ⟨v, us, rfl, r1, r2⟩ := r.uncons
    cases d with
    | tup xs =>
      simp only [tupsOf] at h
      cases e : intsOf xs with
      | none => rw [e] at h; cases h
      | some ns =>
        rw [e] at h
        obtain ⟨ts', e2, rfl⟩ := Option.map_eq_some_iff.mp h
        obtain ⟨ks, rfl, q1, q2⟩ := tups_rep e2 r2
        obtain ⟨a, zs, rfl, q, _, rr⟩ := rep_tup.mp r1
        have ez := intsOf_ok e rr
        subst ez
        refine ⟨(a, ns) :: ks, rfl, fun p hp => (List.mem_cons.mp hp).elim (fun e => by rw [e]; exact q.sq) (q1 p), by rw [List.map_cons, q2]⟩
    | _ => simp [tupsOf] at h
theorem l_lenset {e : Expr} {p p2 pos pos2 : Pos} {f : Sl → Hh → Out D} (hc : X.calm = true) (hu : X.A.units + 65 < cLine) (hK : X.K = c.K) (hg : Gl X "len") (hm : X.mg "len" = none) (hg2 : Gl X "set") (hm2 : X.mg "set" = none) (h1 : PE X e (tE c W f)) (n1 : notStar e = true) :
    PE X (.Call (.Name "len" p) [.Call (.Name "set" p2) [e] [] pos2] [] pos) (tE c W fun σ M => (f σ M).bind fun x M1 => lensetD [x] M1) := by
  refine (pe_lenSetN (p := p) (p2 := p2) (q := pos2) (pos := pos) hc hu hg hm hg2 hm2 h1 (star_eq n1)).weak fun τ H Q ⟨w, M, σ, S, RS, q⟩ => ?_
  refine (nxt S RS q).imp fun v H1 ⟨w1, M1, d, s1, S1, RS1, r1, q1⟩ => ?_
  simp only [lensetD] at q1
  split at q1
  · rename_i ps hp
    split at q1
    · rename_i hlt
      obtain ⟨ds, e1, e2⟩ := Option.bind_eq_some_iff.mp hp
      obtain ⟨a, vs, rfl, hq, z, rr⟩ := lstOf_ok S1 e1 r1
      obtain ⟨rfl, _⟩ := strs_rep e2 rr
      refine .inl ⟨a, ps.map toS, rfl, by rw [hK]; exact hq, by rw [List.length_map]; exact hlt, ?_⟩
      rw [dN_map toS toS_inj]
      exact OkG.ret q1 S1 (rep_int.mpr rfl)
    · exact q1.elim
  · split at q1
    · rename_i ts ht
      split at q1
      · rename_i hlt
        obtain ⟨ds, e1, e2⟩ := Option.bind_eq_some_iff.mp ht
        obtain ⟨a, vs, rfl, hq, z, rr⟩ := lstOf_ok S1 e1 r1
        obtain ⟨ks, rfl, q2, rfl⟩ := tups_rep e2 rr
        rw [List.length_map] at hlt
        exact .inr ⟨a, ks, rfl, by rw [hK]; exact hq, fun p hp => by rw [hK]; exact q2 p hp, hlt, OkG.ret q1 S1 (rep_int.mpr rfl)⟩
      · exact q1.elim
    · exact q1.elim
end
end Fw
namespace Fw
open PySem PySem.Spec PyProof.Rows L2
section
variable {prog : Program} {w : World} {A : Around} {E : Value → Shared → Prop} {s : Shared}
theorem zipS_held {t1 t2 : Bool} {z TI TO T i1 i2 l1 l2 : Addr} {f : Bool} {oT : Obj} {k1 k2 : Nat} {xs ys : Array Value} {Q : Value → Shared → Prop} (hh : A.handled = none) (D : ZipApart z TI TO i1 i2 l1 l2)
    (hz : IsZipHeld s.heap z TI TO T f) (hT : s.heap.get? T = some oT) (hTI : IsPair s.heap TI (.ref i1) (.ref i2)) (r1 : Src t1 s.heap i1 l1 k1 xs) (r2 : Src t2 s.heap i2 l2 k2 ys)
    (yes : ∀ x y, xs[k1]? = some x → ys[k2]? = some y → ∀ h', IsZipHeld h' z TI TO T true → Src t1 h' i1 l1 (k1 + 1) xs → Src t2 h' i2 l2 (k2 + 1) ys → IsPair h' s.heap.objs.size x y → h'.objs.size = s.heap.objs.size + 1 →
      (∀ c o, c ≠ z → c ≠ i1 → c ≠ i2 → s.heap.get? c = some o → h'.get? c = some o) → Q (.ref s.heap.objs.size) { s with heap := h' })
    (no : (xs[k1]? = none ∨ ys[k2]? = none) → ∀ h' e, (∀ c o, c ≠ z → c ≠ i1 → c ≠ i2 → s.heap.get? c = some o → h'.get? c = some o) → (∃ o, h'.get? e = some o ∧ o.cls = .type "StopIteration") → E (.ref e) { s with heap := h' }) :
    wpAny (model prog w) A (Builtin.«zip.__next__» ⟨[.ref z], []⟩) (fun fin s' => ∃ v, fin = .done (.ret v) ∧ Q v s') E s := by
  show wpAny _ _ (field (.ref z) 2 >>= _) _ _ _
  refine wpAny_bind (wpAny_field hz rfl (x := .bool false) rfl ?_)
  show wpAny _ _ (field (.ref z) 3 >>= _) _ _ _
  refine wpAny_bind (wpAny_field hz rfl (x := .ref TI) rfl ?_)
  refine wpAny_bind (wpAny_seqItems hTI rfl ?_)
  show wpAny _ _ (Builtin.SmallTypes.ownedTupleIsFree (.ref z) >>= _) _ _ _
  refine wpAny_bind (wpAny_tupleHeld_zip hz hT fun h₁ hz₁ hs₁ => ?_)
  simp only [Bool.false_eq_true, if_false]
  refine wpAny_bind ?_
  rw [← Array.forIn_toList]
  simp only [List.forIn_cons, List.forIn_nil]
  refine wpAny_bind (wpAny_bind (wpAny_holding ?_))
  show wpAny _ _ (Builtin.SmallTypes.nextOf (.ref i1) >>= _) _ _ _
  have x1 := hs₁.extBut
  have r1' : Src t1 h₁ i1 l1 k1 xs := r1.mv (fun o => x1 _ o D.i1z) (fun o => x1 _ o D.l1z)
  cases hx : xs[k1]? with
  | none => exact wpAny_bind (src_end (sh := { s with heap := h₁ }) hh r1' hx fun h₂ e hs₂ he => no (.inl hx) h₂ e (fun c o c1 c2 _ q => hs₂ _ _ c2 (x1 _ _ c1 q)) he)
  | some x =>
    refine wpAny_bind (src_item (sh := { s with heap := h₁ }) r1' D.l1i1 hx fun h₂ q1 hs₂ => wpAny_pure ?_)
    have x2 := hs₂.extBut
    refine wpAny_pure ?_
    refine wpAny_bind (wpAny_bind (wpAny_holding ?_))
    show wpAny _ _ (Builtin.SmallTypes.nextOf (.ref i2) >>= _) _ _ _
    have r2' : Src t2 h₂ i2 l2 k2 ys := r2.mv (fun o q => x2 _ _ D.i12.symm (x1 _ _ D.i2z q)) (fun o q => x2 _ _ D.l2i1 (x1 _ _ D.l2z q))
    cases hy : ys[k2]? with
    | none => exact wpAny_bind (src_end (sh := { s with heap := h₂ }) hh r2' hy fun h₃ e hs₃ he => no (.inr hy) h₃ e (fun c o c1 c2 c3 q => hs₃ _ _ c3 (x2 _ _ c2 (x1 _ _ c1 q))) he)
    | some y =>
      refine wpAny_bind (src_item (sh := { s with heap := h₂ }) r2' D.l2i2 hy fun h₃ q2 hs₃ => wpAny_pure ?_)
      have x3 := hs₃.extBut
      refine wpAny_pure (wpAny_pure ?_)
      show wpAny _ _ (newTuple [x, y] >>= _) _ _ _
      refine wpAny_bind (wpAny_newTuple ?_)
      have hsz : h₃.objs.size = s.heap.objs.size := by rw [hs₃.1, hs₂.1, hs₁.1]
      have hz₃ : IsZipHeld h₃ z TI TO T true := x3 _ _ D.i2z.symm (x2 _ _ D.i1z.symm hz₁)
      have hk : ∀ c o, c ≠ z → c ≠ i1 → c ≠ i2 → s.heap.get? c = some o → h₃.get? c = some o := fun c o c1 c2 c3 e => x3 _ _ c3 (x2 _ _ c2 (x1 _ _ c1 e))
      have s1 : Src t1 h₃ i1 l1 (k1 + 1) xs := q1.mv (fun o => x3 _ o D.i12) (fun o => x3 _ o D.l1i2)
      refine wpAny_pure ⟨_, rfl, ?_⟩
      show Q (.ref h₃.objs.size) _
      have hp : IsPair (h₃.push { cls := .type "tuple", data := .seq #[x, y] }) h₃.objs.size x y := Heap.get?_push_size _ rfl
      have hz4 : (h₃.push { cls := .type "tuple", data := .seq #[x, y] }).objs.size = h₃.objs.size + 1 := Heap.size_push ..
      rw [hsz] at hp hz4 ⊢
      exact yes x y hx hy _ (Heap.get?_push_of_some _ hz₃) (s1.mv (fun o e => Heap.get?_push_of_some _ e) fun o e => Heap.get?_push_of_some _ e) (q2.mv (fun o e => Heap.get?_push_of_some _ e) fun o e => Heap.get?_push_of_some _ e) hp hz4 fun c o c1 c2 c3 e => Heap.get?_push_of_some _ (hk c o c1 c2 c3 e)
theorem pyNext_zipS_held {t1 t2 : Bool} {z TI TO T i1 i2 l1 l2 : Addr} {f : Bool} {oT : Obj} {k1 k2 : Nat} {xs ys : Array Value} {Q : Option Value → Shared → Prop} (hh : A.handled = none) (D : ZipApart z TI TO i1 i2 l1 l2)
    (hz : IsZipHeld s.heap z TI TO T f) (hT : s.heap.get? T = some oT) (hTI : IsPair s.heap TI (.ref i1) (.ref i2)) (r1 : Src t1 s.heap i1 l1 k1 xs) (r2 : Src t2 s.heap i2 l2 k2 ys)
    (yes : ∀ x y, xs[k1]? = some x → ys[k2]? = some y → ∀ h', IsZipHeld h' z TI TO T true → Src t1 h' i1 l1 (k1 + 1) xs → Src t2 h' i2 l2 (k2 + 1) ys → IsPair h' s.heap.objs.size x y → h'.objs.size = s.heap.objs.size + 1 →
      (∀ c o, c ≠ z → c ≠ i1 → c ≠ i2 → s.heap.get? c = some o → h'.get? c = some o) → Q (some (.ref s.heap.objs.size)) { s with heap := h' })
    (no : (xs[k1]? = none ∨ ys[k2]? = none) → ∀ h', (∀ c o, c ≠ z → c ≠ i1 → c ≠ i2 → s.heap.get? c = some o → h'.get? c = some o) → Q none { s with heap := h' }) : wpAny (model prog w) A (pyNext (.ref z)) Q E s := by
  have ty : s.TypeIs (.ref z) "zip" := ⟨_, hz, rfl⟩
  unfold pyNext
  refine wpAny_bind (wpAny_attempt (wpAny_callSpecial?_slot (name := Str.ofString "__next__") ty F.slot_zip_next (wpAny_call_entry F.slot_zip_next ty F.entry_zip_next (zipS_held hh D hz hT hTI r1 r2 (fun x y e1 e2 h' a1 a2 a3 a4 a5 a6 => wpAny_pure (yes x y e1 e2 h' a1 a2 a3 a4 a5 a6)) fun e0 h' e up st => ?_) (F.args_zip_next_1 _))))
  obtain ⟨o, ho, hc⟩ := st
  exact wpAny_bind (wpAny_isInstance (T := "StopIteration") (b := true) ⟨o, ho, hc⟩ isSubtype_stop (wpAny_pure (no e0 _ up)))
end
section
variable {prog : Program} {w : World}
theorem Src.there {t : Bool} {h : Heap} {it l : Addr} {k : Nat} {xs : Array Value} (r : Src t h it l k xs) : (∃ o, h.get? it = some o) ∧ ∃ o, h.get? l = some o := by
  cases t with
  | true =>
    obtain ⟨⟨u, v, _⟩, ⟨u2, v2, _⟩⟩ := (show h.IsTupleIter it l k ∧ h.IsTuple l xs from r)
    exact ⟨⟨u, v⟩, ⟨u2, v2⟩⟩
  | false =>
    obtain ⟨⟨u, v, _⟩, ⟨u2, v2, _⟩⟩ := (show h.IsListIter it l k ∧ h.IsList l xs from r)
    exact ⟨⟨u, v⟩, ⟨u2, v2⟩⟩
theorem argZipS (t1 t2 : Bool) (z TI TO i1 i2 l1 l2 : Addr) (D : ZipApart z TI TO i1 i2 l1 l2) (xs ys : Array Value) :
    PairArg prog w "zip" z [z, TI, TO, i1, i2, l1, l2] [z, TO, i1, i2] (min xs.size ys.size) (fun i k v => xs[i]? = some k ∧ ys[i]? = some v)
      (fun h => IsZip h z TI TO .none ∧ IsPair h TI (.ref i1) (.ref i2) ∧ (∃ a b, IsPair h TO a b) ∧ Src t1 h i1 l1 0 xs ∧ Src t2 h i2 l2 0 ys) where
  type := fun s ok => ⟨_, ok.1, rfl⟩
  notDict := by decide
  keep := fun h h' ok hk => by
    obtain ⟨hz, hTI, ⟨a, b, hTO⟩, h1, h2⟩ := ok
    exact ⟨hk _ _ hz, hk _ _ hTI, ⟨a, b, hk _ _ hTO⟩, h1.mv (fun o e => hk _ o e) fun o e => hk _ o e, h2.mv (fun o e => hk _ o e) fun o e => hk _ o e⟩
  there := fun h ok b hb => by
    obtain ⟨hz, hTI, ⟨a, c, hTO⟩, h1, h2⟩ := ok
    simp only [List.mem_cons, List.not_mem_nil, or_false] at hb
    rcases hb with rfl | rfl | rfl | rfl | rfl | rfl | rfl
    · exact ⟨_, hz⟩
    · exact ⟨_, hTI⟩
    · exact ⟨_, hTO⟩
    · exact h1.there.1
    · exact h2.there.1
    · exact h1.there.2
    · exact h2.there.2
  sub := fun b hb => by simp at hb ⊢; rcases hb with rfl | rfl | rfl | rfl <;> simp
  noKeys := fun A s Q E hA ok h => getAttrOr_miss_zip ok.1 rfl rfl rfl zip_no_keys (by decide +kernel) hA h
  iter := fun A s d Q E hA ok hd hdf h => by
    obtain ⟨hz, hTI, ⟨a, b, hTO⟩, h1, h2⟩ := ok
    simp only [List.mem_cons, List.not_mem_nil, or_false, not_or] at hdf
    obtain ⟨dz, dTI, dTO, di1, di2, dl1, dl2⟩ := hdf
    refine wpAny_pyIter_zip hz (h z [z, TO, i1, i2] (fun i h => IsPair h TI (.ref i1) (.ref i2) ∧ Src t1 h i1 l1 i xs ∧ Src t2 h i2 l2 i ys ∧
      ((IsZip h z TI TO .none ∧ ∃ a b, IsPair h TO a b) ∨ ∃ T f oT, IsZipHeld h z TI TO T f ∧ h.get? T = some oT ∧ T ≠ z ∧ T ≠ i1 ∧ T ≠ i2 ∧ T ≠ d)) s.heap s.toks ?_
      ⟨hTI, h1, h2, .inl ⟨hz, a, b, hTO⟩⟩ (fun _ _ e => e) fun b hb => .inl hb)
    exact {
      off := fun hm => by
        simp only [List.mem_cons, List.not_mem_nil, or_false] at hm
        rcases hm with e | e | e | e
        · exact dz e
        · exact dTO e
        · exact di1 e
        · exact di2 e
      frame := fun i h₁ h₂ st hk => by
        obtain ⟨hTI, h1, h2, hz⟩ := st
        refine ⟨hk _ _ (Ne.symm dTI) hTI, h1.mv (fun o e => hk _ o (Ne.symm di1) e) fun o e => hk _ o (Ne.symm dl1) e, h2.mv (fun o e => hk _ o (Ne.symm di2) e) fun o e => hk _ o (Ne.symm dl2) e, ?_⟩
        rcases hz with ⟨hz, a, b, hTO⟩ | ⟨T, f, oT, hz, hT, r1, r2, r3, r4⟩
        · exact .inl ⟨hk _ _ (Ne.symm dz) hz, a, b, hk _ _ (Ne.symm dTO) hTO⟩
        · exact .inr ⟨T, f, oT, hk _ _ (Ne.symm dz) hz, hk _ _ r4 hT, r1, r2, r3, r4⟩
      item := fun i s₁ Q₁ E₁ hi st hds hQ => by
        obtain ⟨hTI, h1, h2, hz⟩ := st
        have hix : i < xs.size := Nat.lt_of_lt_of_le hi (Nat.min_le_left ..)
        have hiy : i < ys.size := Nat.lt_of_lt_of_le hi (Nat.min_le_right ..)
        have lt : ∀ {c o}, s₁.heap.get? c = some o → s₁.heap.objs.size ≠ c := fun e => Nat.ne_of_gt (Heap.lt_size e)
        have n1 : s₁.heap.objs.size ≠ i1 := let ⟨_, e⟩ := h1.there.1; lt e
        have n2 : s₁.heap.objs.size ≠ i2 := let ⟨_, e⟩ := h2.there.1; lt e
        rcases hz with ⟨hz, a, b, hTO⟩ | ⟨T, f, oT, hz, hT, r1, r2, r3, r4⟩
        · refine pyNext_zipS hA D hz hTI hTO h1 h2 (fun x y ex ey h' a1 a2 a3 a4 a5 a6 hk => ?_) fun e0 => ?_
          · exact hQ s₁.heap.objs.size _ _ h' s₁.toks ⟨ex, ey⟩ (.inl ⟨_, a5, rfl, _, rfl⟩)
              ⟨hk _ _ D.TIz D.TITO D.TIi1 D.TIi2 hTI, a3, a4, .inr ⟨s₁.heap.objs.size, false, _, a1, a5, lt hz, n1, n2, Nat.ne_of_gt hds⟩⟩
              fun c o hc e => hk c o (fun x => hc (by simp [x])) (fun x => hc (by simp [x])) (fun x => hc (by simp [x])) (fun x => hc (by simp [x])) e
          · rcases e0 with e0 | e0
            · rw [Array.getElem?_eq_getElem hix] at e0; cases e0
            · rw [Array.getElem?_eq_getElem hiy] at e0; cases e0
        · refine pyNext_zipS_held hA D hz hT hTI h1 h2 (fun x y ex ey h' a1 a3 a4 a5 a6 hk => ?_) fun e0 => ?_
          · exact hQ s₁.heap.objs.size _ _ h' s₁.toks ⟨ex, ey⟩ (.inl ⟨_, a5, rfl, _, rfl⟩)
              ⟨hk _ _ D.TIz D.TIi1 D.TIi2 hTI, a3, a4, .inr ⟨T, true, oT, a1, hk _ _ r1 r2 r3 hT, r1, r2, r3, r4⟩⟩
              fun c o hc e => hk c o (fun x => hc (by simp [x])) (fun x => hc (by simp [x])) (fun x => hc (by simp [x])) e
          · rcases e0 with e0 | e0
            · rw [Array.getElem?_eq_getElem hix] at e0; cases e0
            · rw [Array.getElem?_eq_getElem hiy] at e0; cases e0
      done := fun s₁ Q₁ E₁ st hQ => by
        obtain ⟨hTI, h1, h2, hz⟩ := st
        have hend : xs[min xs.size ys.size]? = none ∨ ys[min xs.size ys.size]? = none := by
          rcases Nat.le_total xs.size ys.size with h | h
          · exact .inl (Array.getElem?_eq_none (by rw [Nat.min_eq_left h]; exact Nat.le_refl _))
          · exact .inr (Array.getElem?_eq_none (by rw [Nat.min_eq_right h]; exact Nat.le_refl _))
        have no : ∀ x y, xs[min xs.size ys.size]? = some x → ys[min xs.size ys.size]? = some y → False := fun x y e1 e2 => by
          rcases hend with h | h
          · rw [h] at e1; cases e1
          · rw [h] at e2; cases e2
        rcases hz with ⟨hz, a, b, hTO⟩ | ⟨T, f, oT, hz, hT, r1, r2, r3, r4⟩
        · exact pyNext_zipS hA D hz hTI hTO h1 h2 (fun x y ex ey => (no x y ex ey).elim) fun _ h' hk => hQ h' s₁.toks fun c o hc e => hk c o (fun x => hc (by simp [x])) (fun x => hc (by simp [x])) (fun x => hc (by simp [x])) (fun x => hc (by simp [x])) e
        · exact pyNext_zipS_held hA D hz hT hTI h1 h2 (fun x y ex ey => (no x y ex ey).elim) fun _ h' hk => hQ h' s₁.toks fun c o hc e => hk c o (fun x => hc (by simp [x])) (fun x => hc (by simp [x])) (fun x => hc (by simp [x])) e }
end
section
variable {X : Cx}
theorem keys_vals {P : Program} {w : World} : ∀ {ks : List Key} {us : List Value} {ys : List V} {vs : List Value}, Vals (ks.map kV) us → Vals ys vs → KV (ks.zip ys) (ks.zip vs) ∧ ∀ (i : Nat) (k v : Value), us[i]? = some k → vs[i]? = some v → ∃ q, (ks.zip vs)[i]? = some (q, v) ∧ (mixKind P w).is q k = true
  | [], us, ys, vs, h1, h2 => by
    cases h1
    exact ⟨.nil, fun i k v e => by simp at e⟩
  | k :: ks, us, [], vs, h1, h2 => by
    cases h2
    exact ⟨.nil, fun i k v _ e => by simp at e⟩
  | k :: ks, us, y :: ys, vs, h1, h2 => by
    cases h1 with
    | cons a b =>
      cases h2 with
      | cons p q =>
        obtain ⟨i1, i2⟩ := keys_vals (P := P) (w := w) b q
        refine ⟨.cons ⟨rfl, p⟩ i1, fun i k' v e1 e2 => ?_⟩
        cases i with
        | zero =>
          simp at e1 e2
          subst e1 e2
          exact ⟨k, rfl, kV_is (P := P) (w := w) a⟩
        | succ i =>
          simp at e1 e2
          obtain ⟨q', e3, e4⟩ := i2 i k' v e1 e2
          exact ⟨q', by simpa using e3, e4⟩
theorem pe_dzip {e e2 : Expr} {ta : TA} {p p2 pos pos2 : Pos} (hc : X.calm = true) (hg : Gl X "dict") (hm : X.mg "dict" = none) (hg2 : Gl X "zip") (hm2 : X.mg "zip" = none) (ha : PA X [e, e2] ta)
    (hs : starEach [e, e2] X.env = (false, eval e X.env) :: starEach [e2] X.env := by rfl) (hpl : (backTo pos2 (starEach [e2] X.env)).any (·.1) = false := by rfl) :
    PE X (.Call (.Name "dict" p) [.Call (.Name "zip" p2) [e, e2] [] pos2] [] pos) (fun σ H Q => ta σ H fun vs H1 => ∃ (a b : Addr) (ks : List Key) (ys : List V), vs = [.ref a, .ref b] ∧ SqT X.K H1 a (ks.map kV) ∧ SqL X.K H1 b ys ∧
      ∀ P : Addr, H1 P = none → Q (.ref P) (upd H1 P (.dK (mergeK [] (ks.zip ys))))) := by
  refine ⟨fun pins s σ H Q I h => ?_⟩
  refine Call_ (ld_blt I hg hm PyProof.Rows.boot_dict ?_)
  refine PyProof.Rows.callWith_type1 (PyProof.Rows.args_cons ?_ rfl) rfl rfl
  refine Call_ (ld_blt I hg2 hm2 PyProof.Rows.boot_zip (PyProof.Rows.callWith_type1 (thn (ha.run pos2 pins s σ H _ I h) fun us s1 ⟨vs, H1, I1, r1, q1⟩ => ?_) hs hpl))
  obtain ⟨a, b, ks, ys, ex, hqx, hqy, q⟩ := q1
  subst ex
  cases r1 with
  | cons r rr =>
    cases rr with
    | cons r' rr =>
      cases rr
      cases r
      cases r'
      obtain ⟨its, rv, p1, lx⟩ := I1.tuple hqx
      obtain ⟨its2, rv2, p2', ly⟩ := I1.list hqy
      have la : a < s1.heap.objs.size := p1.lt
      have lb : b < s1.heap.objs.size := p2'.lt
      refine call_tl p1 p2'.isList fun h' hz hTI hTO h1 h2 hk => ?_
      refine PyProof.Rows.args_nil ?_
      have D := PySem.W.ktu_apart s1.heap.objs.size a b la lb
      have l1 := rv.length
      have l2 := rv2.length
      rw [List.length_map] at l1 lx
      obtain ⟨kv, hv⟩ := keys_vals (P := X.prog) (w := X.w) rv rv2
      have hn : (ks.zip its2).length = min its.toArray.size its2.toArray.size := by rw [List.length_zip, List.size_toArray, List.size_toArray, l1]
      refine PySem.call_dict_pairs (s := { s1 with heap := h' }) (knd := mixKind X.prog X.w) (kvs := ks.zip its2) (argZipS true false _ _ _ _ _ _ _ D its.toArray its2.toArray) (I1.ok.hd hc) ⟨hz, hTI, ⟨_, _, hTO⟩, h1, h2⟩ ⟨hn, fun i key v e => hv i key v (by simpa using e.1) (by simpa using e.2)⟩ (by rw [List.size_toArray, ← l1]; exact Nat.le_trans (Nat.min_le_left _ _) lx) fun h'' tk hd hk2 => ?_
      have up : ∀ b u, s1.heap.get? b = some u → h''.get? b = some u := fun b u e => by
        have lt := Heap.lt_size e
        refine hk2 b u (fun hm => ?_) (hk b u e)
        simp only [List.mem_cons, List.not_mem_nil, or_false] at hm
        rcases hm with z | z | z | z
        · exact absurd lt (by rw [z]; exact Nat.not_lt.mpr (Nat.le_add_right _ _))
        · exact absurd lt (by rw [z]; exact Nat.not_lt.mpr (Nat.le_add_right _ _))
        · exact absurd lt (by rw [z]; exact Nat.lt_irrefl _)
        · exact absurd lt (by rw [z]; exact Nat.not_lt.mpr (Nat.le_add_right _ _))
      have big : s1.heap.objs.size ≤ h'.objs.size := by
        have : s1.heap.objs.size + 4 < h'.objs.size := Heap.lt_size hz
        exact Nat.le_of_lt (Nat.lt_of_le_of_lt (Nat.le_add_right _ _) this)
      have hms : (h'.objs.size == sysModules) = false := beq_eq_false_iff_ne.mpr (Nat.ne_of_gt (Nat.lt_of_lt_of_le I1.big big))
      have hlen : (mergeK [] (ks.zip ys)).length ≤ sizeLine := by
        refine Nat.le_trans (length_mergeK _ []) ?_
        rw [List.length_nil, Nat.zero_add, List.length_zip]
        exact Nat.le_trans (Nat.min_le_left _ _) lx
      exact ⟨.ref h'.objs.size, upd H1 h'.objs.size (.dK (mergeK [] (ks.zip ys))), I1.laid (t' := tk) up big (show ObjOk X.prog X.w _ _ _ (.dK (mergeK [] (ks.zip ys))) from ⟨hlen, hms, merged [] (ks.zip its2), KV.merge kv .nil, hd⟩), rfl, q _ (I1.hok.fresh big)⟩
end
end Fw
namespace Fw
open PySem PySem.Spec PyProof.Rows L2
section
variable {c : Ct} {w : Wd} {M : Hh} {H : Hp}
theorem zip_vals : ∀ {ks : List Key} {ys : List V} {ds : List D}, ks.length = ys.length → RepL c w H ds ys → RepL c w H ds ((ks.zip ys).map (·.2)) ∧ (ks.zip ys).map (fun p => kD p.1) = ks.map kD ∧ ((ks.zip ys).map (·.1)) = ks := by
  intro ks ys ds hl r
  have e2 : (ks.zip ys).map (·.2) = ys := List.map_snd_zip (by omega)
  have e1 : (ks.zip ys).map (·.1) = ks := List.map_fst_zip (by omega)
  refine ⟨by rw [e2]; exact r, ?_, e1⟩
  rw [show (ks.zip ys).map (fun p => kD p.1) = ((ks.zip ys).map (·.1)).map kD by rw [List.map_map]; rfl, e1]
theorem keys_each : ∀ {ks : List Key}, RepL c w H (ks.map kD) (ks.map kV) → ∀ x ∈ ks, Rep c w H (kD x) (kV x)
  | [], _, x, hx => by cases hx
  | k :: ks, r, x, hx => by
    simp only [List.map_cons] at r
    obtain ⟨v0, r0, e0, g1, g2⟩ := r.uncons
    simp only [List.cons.injEq] at e0
    obtain ⟨rfl, rfl⟩ := e0
    rcases List.mem_cons.mp hx with e | hx
    · rw [e]; exact g1
    · exact keys_each g2 x hx
end
section
variable {c : Ct} {W : WX} {X : Cx}
theorem l_dzip {e e2 : Expr} {p p2 pos pos2 : Pos} {f g : Sl → Hh → Out D} (hc : X.calm = true) (hK : X.K = c.K) (hg : Gl X "dict") (hm : X.mg "dict" = none) (hg2 : Gl X "zip") (hm2 : X.mg "zip" = none) (h1 : PE X e (tE c W f)) (h2 : PE X e2 (tE c W g)) (n1 : notStar e = true) (n2 : notStar e2 = true) :
    PE X (.Call (.Name "dict" p) [.Call (.Name "zip" p2) [e, e2] [] pos2] [] pos) (tE c W fun σ M => (f σ M).bind fun x M1 => (g σ M1).bind fun y M2 => dzipD x y M2) := by
  have ha := pa_cons h1 (pa_cons h2 pa_nil (star_eq n2)) (star_eq n1)
  refine (pe_dzip (pos := pos) (p := p) (p2 := p2) (pos2 := pos2) hc hg hm hg2 hm2 ha (star_eq n1) (star_any (by rw [List.all_cons, n2]; rfl))).weak fun τ H Q ⟨w, M, σ, S, RS, q⟩ => ?_
  refine (nxt S RS q).imp fun v H1 ⟨w1, M1, d, s1, S1, RS1, r1, q1⟩ => ?_
  refine (nxt S1 RS1 q1).imp fun u H2 ⟨w2, M2, d2, s2, S2, RS2, r2, q2⟩ => ?_
  unfold dzipD at q2
  cases d with
  | tup xs =>
    cases ey : lstOf M2 d2 with
    | none => rw [ey] at q2; exact q2.elim
    | some ys =>
      rw [ey] at q2
      simp only at q2
      by_cases hk : xs.all key1 = true ∧ xs.length = ys.length
      · rw [if_pos hk] at q2
        obtain ⟨a, vs, rfl, hq, z, rr⟩ := rep_tup.mp (Rep.mono s2 _ _ r1)
        obtain ⟨a2, us, rfl, hq2, zz, rr2⟩ := lstOf_ok S2 ey r2
        obtain ⟨ks, rfl, rfl⟩ := keys_ok hk.1 rr
        have hl : ks.length = us.length := by
          have h1 := rr2.len
          have h2 := hk.2
          rw [List.length_map] at h2
          omega
        obtain ⟨z1, z2', z3⟩ := zip_vals (ks := ks) hl rr2
        refine ⟨a, a2, ks, us, rfl, by rw [hK]; exact hq.sq, by rw [hK]; exact hq2, fun P hP => ?_⟩
        refine new_merge (c := c) (E := fun cls d H' => W cls d τ H') S2 z1 (fun x hx => keys_each rr x (by rw [z3] at hx; exact hx)) ?_ hP ?_
        · rw [List.length_zip]
          rw [List.length_map] at z
          omega
        · rw [z2']
          exact q2
      · rw [if_neg hk] at q2; exact q2.elim
  | _ => exact q2.elim
end
section
variable {c : Ct} {w w2 : Wd} {M : Hh} {H H3 : Hp} {d : Addr} {kvs : List (Key × V)} {o : Obj}
theorem Gr.set {i : Nat} (hi : w.ι[i]? = some d) (o : HO) : Gr w H w (upd H d o) := ⟨fun b u e n => ⟨n, by
  rw [upd_ne (fun z => n (by rw [z]; exact .inl (List.mem_of_getElem? hi)))]; exact e⟩, fun _ _ e => e⟩
theorem Stp.unlk {i : Nat} (hi : w.ι[i]? = some d) (hd : H d = some (.dK kvs)) (s : Stp w (upd H d (.frz o (.dK kvs))) w2 H3) : Stp w H w2 (upd H3 d (.dK kvs)) := by
  refine ⟨s.av, ?_, fun b u h n => ?_, fun b h => ?_, fun b x u h => ?_⟩
  · obtain ⟨new, e, f⟩ := s.ι
    refine ⟨new, e, fun a ha => ?_⟩
    have := f a ha
    by_cases z : a = d
    · rw [z, upd_same] at this; cases this
    · rwa [upd_ne z] at this
  · have nb : b ≠ d := fun z => n (by rw [z]; exact List.mem_of_getElem? hi)
    rw [upd_ne nb]
    exact s.keep b u (by rw [upd_ne nb]; exact h) n
  · by_cases z : b = d
    · rw [z, upd_same]; simp
    · rw [upd_ne z]
      exact s.live b (by rw [upd_ne z]; exact h)
  · have nb : b ≠ d := fun z => by rw [z, hd] at h; cases h
    rw [upd_ne nb]
    exact s.frz b x u (by rw [upd_ne nb]; exact h)
noncomputable def compDE (m : Bool) (tg : List Nat) (i : Nat) (cf : Option (Sl → Hh → Out D)) (ef : Sl → Hh → Out D) : Sl → Hh → Out D := fun σ M =>
  match lockD σ i M with
    | some (k, ks, vs) => if line < ks.length then .bad else (unlkD k ks vs (compL (fun d => bindTg tg d σ) (condF cf) ef [] ks [] (M.set k (.lck ks vs)))).bind fun ys M2 => mkL m ys M2
    | none => .bad
theorem lockD_inv {σ : Sl} {i k : Nat} {M : Hh} {ks vs : List D} (h : lockD σ i M = some (k, ks, vs)) : σ[i]? = some (some (.ref k)) ∧ M[k]? = some (.dic .one ks vs) := by
  unfold lockD at h
  split at h
  · rename_i e
    split at h
    · rename_i e2
      simp only [Option.some.injEq, Prod.mk.injEq] at h
      obtain ⟨rfl, rfl, rfl⟩ := h
      exact ⟨e, e2⟩
    · cases h
  · cases h
theorem compD_of {W : WX} {m : Bool} {tg : List Nat} {i : Nat} {cf : Option (Sl → Hh → Out D)} {vf ef : Sl → Hh → Out D} {τ : L2.St} {Q : VK} (hv : ∀ σ d M, σ[i]? = some (some d) → vf σ M = .ok d M)
    (h : tE c W (compDE m tg i cf ef) τ H Q) : tLockE (tLc (iKeys (tE c W vf)) (tG c tg) (tIfs c cf) (tE c WF ef) tg) τ H Q := by
  obtain ⟨w, M, σ, S, RS, h⟩ := h
  unfold compDE at h
  cases e0 : lockD σ i M with
  | none => rw [e0] at h; exact h.elim
  | some q =>
    obtain ⟨k, ks, vs⟩ := q
    rw [e0] at h
    simp only at h
    obtain ⟨es, eM⟩ := lockD_inv e0
    by_cases hz : line < ks.length
    · rw [if_pos hz] at h; exact h.elim
    rw [if_neg hz] at h
    obtain ⟨_, _, rk⟩ := RS.at_ i _ es
    obtain ⟨d, rfl, hk⟩ := rep_ref.mp rk
    obtain ⟨l1, l2, kvs, hd, nd, ek, r1, r2⟩ := S.cell k d _ hk eM
    obtain ⟨ys, Mz, hr, hmz, hm⟩ : ∃ ys Mz, compL (fun d => bindTg tg d σ) (condF cf) ef [] ks [] (M.set k (.lck ks vs)) = .ok ys Mz ∧ (∃ a b, Mz[k]? = some (.lck a b)) ∧ OkG c (Rep c) w H (mkL m ys (Mz.set k (.dic .one ks vs))) Q (fun cls d H' => W cls d τ H') := by
      generalize compL (fun d => bindTg tg d σ) (condF cf) ef [] ks [] (M.set k (.lck ks vs)) = r at h
      cases r with
      | bad => exact h.elim
      | exn x fs M' => exact h.elim
      | ok ys Mz =>
        unfold unlkD at h
        simp only at h
        split at h
        · rename_i a b e
          exact ⟨ys, Mz, rfl, ⟨_, _, e⟩, h⟩
        · exact h.elim
    refine ⟨d, .dK kvs, hd, trivial, fun od => ?_⟩
    have nf0 : ∀ x u, H d ≠ some (.frz x u) := nf hd trivial
    have s0 : Stp w H w (upd H d (.frz od (.dK kvs))) := Stp.write hk nf0
    have S0 : Sim c w (M.set k (.lck ks vs)) (upd H d (.frz od (.dK kvs))) := S.write hk ⟨l1, l2, od, kvs, upd_same, nd, ek, RepL.mono s0 _ _ r1, RepL.mono s0 _ _ r2⟩
    have RS0 := RS.mono s0
    have r10 := RepL.mono s0 _ _ r1
    have r20 := RepL.mono s0 _ _ r2
    have u0 : upd H d (.frz od (.dK kvs)) d = some (.frz od (.dK kvs)) := upd_same
    refine ⟨w, M.set k (.lck ks vs), σ, S0, RS0, ?_⟩
    rw [hv σ _ _ es]
    intro w1 H1 v s1 S1 rv
    obtain ⟨d', rfl, hk1⟩ := rep_ref.mp rv
    have hd' : d' = d := by
      obtain ⟨new, e, _⟩ := s1.ι
      have : w1.ι[k]? = some d := by rw [e, List.getElem?_append_left (List.getElem?_eq_some_iff.mp hk).1]; exact hk
      rw [this] at hk1
      exact (Option.some.inj hk1).symm
    subst hd'
    have f1 : H1 d' = some (.frz od (.dK kvs)) := s1.frz _ _ _ u0
    refine ⟨d', od, rfl, .inl ⟨kvs, f1, fun D hD => ?_⟩⟩
    have RS1 := RS0.mono s1
    have r11 := RepL.mono s1 _ _ r10
    have r21 := RepL.mono s1 _ _ r20
    have hDd : D ≠ d' := fun z => by rw [z, f1] at hD; cases hD
    have hlk : ks.length = kvs.length := by rw [ek, List.length_map]
    let Wi : Nat → Nat → Hp → Prop := fun j n H2 => n = ks.length - j ∧ j ≤ ks.length ∧ ∃ w2 M2 acc us, Stp w1 H1 w2 H2 ∧ Sim c (w2.away D) M2 H2 ∧ H2 D = some (.lst us) ∧ RepL c (w2.away D) H2 acc us ∧ acc.length ≤ j ∧
      compL (fun d => bindTg tg d σ) (condF cf) ef [] (ks.drop j) acc M2 = .ok ys Mz
    refine ⟨Wi, ⟨ks.length, by simp, Nat.zero_le _, w1, M.set k (.lck ks vs), [], [], Stp.laid hD, S1.put hD trivial, upd_same, RepL.nil, Nat.le_refl _, by simpa using hr⟩, ?_⟩
    rintro j n H2 ⟨rfl, hj, w2, M2, acc, us, s2, S2, eD, ra, hal, hc⟩
    have gr2 : Gr w1 H1 (w2.away D) H2 := s2.gr.away hD
    have f2 : H2 d' = some (.frz od (.dK kvs)) := s2.frz _ _ _ f1
    by_cases hlt : j < ks.length
    · right
      have ed : ks.drop j = ks[j] :: ks.drop (j + 1) := List.drop_eq_getElem_cons hlt
      generalize hx : ks[j] = x at ed
      have ex : ks[j]? = some x := by rw [List.getElem?_eq_getElem hlt, hx]
      rw [ed] at hc
      unfold compL at hc
      split at hc
      · rename_i hgd
        split at hc
        · cases hc
        · rename_i σ2 hb
          obtain ⟨b, M3, ec, hc⟩ := bind_ok_inv hc
          refine ⟨⟨f2, by rw [← hlk]; exact hlt⟩, fun H' => Wi (j + 1) (ks.length - (j + 1)) H', fun H' p => ⟨_, by omega, p⟩, fun v H3 y => ?_⟩
          obtain ⟨rfl, kk, vv, ekk, rfl⟩ := y
          have rv : Rep c (w2.away D) H3 x (kV kk) := by
            obtain ⟨v', ev, rv⟩ := (RepL.gr gr2 _ _ r11).get ex
            rw [List.getElem?_map, ekk] at ev
            cases ev
            exact rv
          have s3 : Stp (w2.away D) H3 (w2.away D) H3 := Stp.refl
          refine ⟨w2.away D, x, σ, σ2, (RS1.gr gr2).wiped tg, rv, hb, fun τ2 RS2 hl ho => ⟨wipe_same hl ho, ?_⟩⟩
          have step : ∀ {b' : Bool} , b = .bl b' → tIfs c cf τ2 H3 fun b H4 => if b = true then tE c WF ef τ2 H4 fun y H5 => ∃ acc, H5 D = some (.lst acc) ∧ acc.length < sizeLine ∧ Wi (j + 1) (ks.length - (j + 1)) (upd H5 D (.lst (acc ++ [y]))) else Wi (j + 1) (ks.length - (j + 1)) H4 := by
            intro b' eb
            subst eb
            refine tIfs_of S2 RS2 ec fun w4 H4 s4 S4 => ?_
            have hD4 : H4 D = some (.lst us) := s4.keep D _ eD (S2.av D (.inr rfl)).1
            obtain ⟨u4, e4⟩ := s4.un
            cases b' with
            | false =>
              simp only [Bool.false_eq_true, if_false]
              rcases ifB_ok_inv hc with ⟨z, _⟩ | ⟨_, hc⟩
              · cases z
              refine ⟨rfl, hlt, ⟨w2.av, w4.ι⟩, M3, acc, us, s2.trans u4, ?_, hD4, ?_, by omega, hc⟩
              · rw [← e4]; exact S4
              · rw [← e4]; exact RepL.mono s4 _ _ ra
            | true =>
              simp only [if_true]
              rcases ifB_ok_inv hc with ⟨_, hc⟩ | ⟨z, _⟩
              · obtain ⟨y, M5, ee, hc⟩ := bind_ok_inv hc
                refine ⟨w4, M3, σ2, S4, RS2.mono s4, ?_⟩
                rw [ee]
                intro w5 H5 v5 s5 S5 r5
                have s5' : Stp ((⟨w2.av, w4.ι⟩ : Wd).away D) H4 w5 H5 := by rw [← e4]; exact s5
                obtain ⟨u5, e5⟩ := s5'.un
                have av4 : w4.av D := by rw [e4]; exact .inr rfl
                have hD5 : H5 D = some (.lst us) := s5.keep D _ hD4 (S4.av D av4).1
                have ra5 := RepL.mono s5 _ _ (RepL.mono s4 _ _ ra)
                have ll := ra5.len
                have av5 : w5.av D := by rw [e5]; exact .inr rfl
                have hz' : ks.length ≤ sizeLine := Nat.le_of_not_lt hz
                refine ⟨us, hD5, by omega, rfl, hlt, ⟨w2.av, w5.ι⟩, M5, acc ++ [y], us ++ [v5], ((s2.trans u4).trans u5).updAv hD _, ?_, upd_same, ?_, by simp; omega, hc⟩
                · rw [← e5]; exact S5.updAv av5 trivial
                · rw [← e5]
                  exact RepL.gr (Gr.updAv av5 _) _ _ (ra5.append (RepL.cons r5 RepL.nil))
              · cases z
          rcases ifB_ok_inv hc with ⟨z, _⟩ | ⟨z, _⟩
          · exact step z
          · exact step z
      · cases hc
    · left
      have e : j = ks.length := by omega
      subst e
      rw [List.drop_length] at hc
      cases hc
      refine ⟨⟨f2, by omega⟩, f2, ?_⟩
      have nav : ¬ w2.av D := fun z => by
        rw [s2.av] at z
        obtain ⟨_, o, eo, _⟩ := S1.av D z
        rw [hD] at eo; cases eo
      have nι : D ∉ w2.ι := (S2.av D (.inr rfl)).1
      have hz' : ys.length ≤ sizeLine := Nat.le_trans hal (Nat.le_of_not_lt hz)
      have stp : Stp w H w2 (upd H2 d' (.dK kvs)) := Stp.unlk hk hd (s1.trans s2)
      have hk2 : w2.ι[k]? = some d' := by
        obtain ⟨new, e, _⟩ := stp.ι
        rw [e, List.getElem?_append_left (List.getElem?_eq_some_iff.mp hk).1]; exact hk
      have hk2' : (w2.away D).ι[k]? = some d' := hk2
      have g3 : Gr (w2.away D) H2 (w2.away D) (upd H2 d' (.dK kvs)) := Gr.set hk2' _
      have q1 := RepL.gr g3 _ _ (RepL.gr gr2 _ _ r11)
      have q2 := RepL.gr g3 _ _ (RepL.gr gr2 _ _ r21)
      have S3 : Sim c (w2.away D) (Mz.set k (.dic .one ks vs)) (upd H2 d' (.dK kvs)) := S2.write hk2' ⟨l1, l2, kvs, upd_same, nd, ek, q1, q2⟩
      have ra3 := RepL.gr g3 _ _ ra
      have eD3 : upd H2 d' (.dK kvs) D = some (.lst us) := by rw [upd_ne hDd]; exact eD
      cases m with
      | false =>
        exact hm w2 _ _ stp S3.back (rep_lst.mpr ⟨D, us, rfl, .inl ⟨fun z => z.elim nι nav, .inl eD3⟩, hz', RepL.gr Gr.back _ _ ra3⟩)
      | true =>
        have hl : w2.ι.length = (Mz.set k (.dic .one ks vs)).length := S3.len
        refine hm (w2.push D) _ _ ?_ (S3.adopt nav ⟨us, eD3, hz', RepL.gr Gr.adopt _ _ ra3⟩) (rep_ref.mpr ⟨D, rfl, ?_⟩)
        · obtain ⟨new, e1, e2⟩ := stp.ι
          refine ⟨stp.av, ⟨new ++ [D], by simp [Wd.push, e1], fun a ha => ?_⟩, stp.keep, stp.live, stp.frz⟩
          rcases List.mem_append.mp ha with z | z
          · exact e2 a z
          · have : a = D := by simpa using z
            rw [this]
            by_cases zz : H D = none
            · exact zz
            · exact absurd hD (s1.live D (s0.live D zz))
        · show (w2.ι ++ [D])[(Mz.set k (.dic .one ks vs)).length]? = some D
          rw [← hl]
          exact List.getElem?_concat_length
end
end Fw
namespace Fw
open PySem PySem.Spec PyProof.Rows L2 PySem.W
section
variable {c : Ct} {w : Wd} {M : Hh} {H : Hp} {X : Cx}
theorem m_index (hK : X.K = c.K) (hu : X.A.units + 65 < cLine) : MtR X "list.index" (rVm c indexD) := by
  intro pins s σ H x xs v us Q I rx r h
  obtain ⟨w, M, d, ds, E, S, r1, r2, h⟩ := h
  unfold indexD at h
  split at h
  · rename_i y
    split at h
    · rename_i zs hz
      split at h
      · rename_i hp
        split at h
        · rename_i j hj
          rw [Bool.and_eq_true] at hp
          obtain ⟨u, rfl, r3⟩ := rep1 r2
          obtain ⟨a, vs, rfl, q, z, rr⟩ := lstOf_ok S hz r1
          obtain ⟨a1, a2, a3⟩ := snapDp S 12 y u r3 hp.1
          obtain ⟨b1, b2, b3⟩ := dpAll_of (snapDp S 12) zs vs rr hp.2
          have hlen : (zs.map (snap M 12)).length = zs.length := List.length_map ..
          obtain ⟨hjl, hjt, hjn⟩ := List.findIdx?_eq_some_iff_getElem.mp hj
          have pl : ∀ e ∈ zs.map (snap M 12), PyData.eqv (toPy e) (toPy (snap M 12 y)) = eqD e (snap M 12 y) := fun e he => eqD_py 12 12 _ _ (plainL_mem hp.2 e he) hp.1
          refine mt_indexD hu pins s σ H _ _ v us Q I rx r ⟨a, u, toPy (snap M 12 y), toPys (zs.map (snap M 12)), j, toPy ((zs.map (snap M 12))[j]), rfl, rfl, .lst (by rw [hK]; exact q) (by rw [hK]; exact b1), by rw [hK]; exact a1,
            shaped_of (n := 13) (by simpa [PyData.canLay0] using b2) (by simp only [PyData.depth]; omega) (by decide), shaped_of a2 a3 (by decide), ?_, ?_, ?_, h.ret S (rep_int.mpr rfl)⟩
          · rw [toPys_map, List.getElem?_map, List.getElem?_eq_getElem hjl]
            rfl
          · rw [pl _ (List.getElem_mem hjl)]
            exact hjt
          · intro m z' hm hz'
            have hml : m < (zs.map (snap M 12)).length := by omega
            rw [toPys_map, List.getElem?_map, List.getElem?_eq_getElem hml] at hz'
            cases (show some (toPy ((zs.map (snap M 12))[m])) = some z' from hz')
            rw [pl _ (List.getElem_mem hml)]
            have := hjn m hm
            simpa using this
        · exact h.elim
      · exact h.elim
    · exact h.elim
  · exact h.elim
theorem m_get1 (hK : X.K = c.K) (hu : X.A.units + 65 < cLine) : MtR X "dict.get" (rVm c get1D) := by
  intro pins s σ H x xs v us Q I rx r h
  obtain ⟨w, M, d, ds, E, S, r1, r2, h⟩ := h
  unfold get1D at h
  split at h
  · rename_i y
    split at h
    · rename_i t ks es hd
      split at h
      · rename_i hk
        obtain ⟨u, rfl, r3⟩ := rep1 r2
        obtain ⟨i, a, rfl, rfl, hi, hM, hO⟩ := dicOf_ok S hd r1
        obtain ⟨o, hg, ho⟩ := dget_ok hO hk r3
        obtain ⟨q, rfl, rq⟩ := vals1 r
        have rx' : v = Value.ref a := rx
        subst rx'
        refine g_get1 (by omega) I (by rw [hK]; exact hg) rq fun w' s' I' rw' => ⟨_, H, I', rw', ?_⟩
        cases hl : lookK y ks es with
        | none =>
          rw [hl] at ho h
          have ho : o = none := ho
          subst ho
          exact h.ret S (rep_non.mpr rfl)
        | some d2 =>
          rw [hl] at ho h
          obtain ⟨z, rfl, rz⟩ := ho
          exact h.ret S rz
      · exact h.elim
    · exact h.elim
  · exact h.elim
theorem del_ok (k : Key) : ∀ {kvs : List (Key × V)} {vs : List D}, RepL c w H vs (kvs.map (·.2)) →
    (delK (kD k) (kvs.map fun p => kD p.1) vs).1 = (L2.dropK kvs k).map (fun p => kD p.1) ∧ RepL c w H (delK (kD k) (kvs.map fun p => kD p.1) vs).2 ((L2.dropK kvs k).map (·.2))
  | [], vs, r => by
    refine ⟨by simp [delK, L2.dropK], ?_⟩
    have : (delK (kD k) (([] : List (Key × V)).map fun p => kD p.1) vs).2 = [] := by simp [delK]
    rw [this]
    exact RepL.nil
  | p :: kvs, vs, r => by
    cases vs with
    | nil => simp only [RepL, List.map_cons] at r; cases r
    | cons d vs =>
      obtain ⟨v, q, e, r1, r2⟩ := r.uncons
      simp only [List.map_cons, List.cons.injEq] at e
      obtain ⟨e1, e2⟩ := e
      subst e1 e2
      obtain ⟨i1, i2⟩ := del_ok k r2
      by_cases hk : p.1 = k
      · have e1 : eqD (kD p.1) (kD k) = true := by rw [eqD_kD]; simp [hk]
        have e2 : L2.dropK (p :: kvs) k = L2.dropK kvs k := by simp [L2.dropK, hk]
        rw [e2]
        simp only [List.map_cons, delK, e1, if_true]
        exact ⟨i1, i2⟩
      · have e1 : ¬ eqD (kD p.1) (kD k) = true := by rw [eqD_kD]; simp [hk]
        have e2 : L2.dropK (p :: kvs) k = p :: L2.dropK kvs k := by simp [L2.dropK, hk]
        rw [e2]
        simp only [List.map_cons, delK, if_neg e1]
        exact ⟨by rw [i1], RepL.cons r1 i2⟩
theorem keysL (kvs : List (Key × V)) : RepL c w H (kvs.map fun p => kD p.1) (kvs.map fun p => kV p.1) → ∀ k, RepL c w H ((L2.dropK kvs k).map fun p => kD p.1) ((L2.dropK kvs k).map fun p => kV p.1) := by
  intro r k
  induction kvs with
  | nil => exact RepL.nil
  | cons p kvs ih =>
    obtain ⟨v, q, e, r1, r2⟩ := r.uncons
    simp only [List.map_cons, List.cons.injEq] at e
    obtain ⟨e1, e2⟩ := e
    subst e1 e2
    by_cases hk : p.1 = k
    · have e2 : L2.dropK (p :: kvs) k = L2.dropK kvs k := by simp [L2.dropK, hk]
      rw [e2]
      exact ih r2
    · have e2 : L2.dropK (p :: kvs) k = p :: L2.dropK kvs k := by simp [L2.dropK, hk]
      rw [e2]
      exact RepL.cons r1 (ih r2)
theorem m_dpop : MtR X "dict.pop" (rVm c dpopD) := by
  intro pins s σ H x xs v us Q I rx r h
  obtain ⟨w, M, d, ds, E, S, r1, r2, h⟩ := h
  unfold dpopD at h
  split at h
  · rename_i i y
    split at h
    · rename_i ks es hM
      split at h
      · rename_i hk
        split at h
        · rename_i d2 hl
          obtain ⟨u, rfl, r3⟩ := rep1 r2
          obtain ⟨a, rfl, hi⟩ := rep_ref.mp r1
          obtain ⟨l, z, hh⟩ := S.cell _ a _ hi hM
          obtain ⟨kvs, e, nd, rfl, rk, rv⟩ := hh
          obtain ⟨k, rfl, rfl⟩ := key1_ok hk r3
          have lo := look_ok (f := kD) eqD_kD k rv
          rw [hl] at lo
          obtain ⟨zv, lv, rz⟩ := lo
          obtain ⟨q, rfl, rq⟩ := vals1 r
          have rx' : v = Value.ref a := rx
          subst rx'
          refine d_pop I e rq lv (.inl rfl) fun w' s' I' rw' => ⟨zv, _, I', rw', ?_⟩
          have s1 : Stp w H w (upd H a (.dK (L2.dropK kvs k))) := Stp.write hi (nf e trivial)
          obtain ⟨p1, p2⟩ := del_ok k rv
          have ll : (L2.dropK kvs k).length ≤ kvs.length := List.length_filter_le _ _
          refine h _ _ _ s1 (S.write hi ⟨?_, ?_, L2.dropK kvs k, upd_same, ?_, p1, ?_, RepL.mono s1 _ _ p2⟩) (Rep.mono s1 _ _ rz)
          · rw [p1, p2.len]; simp
          · rw [p1, List.length_map]
            rw [List.length_map] at z
            omega
          · exact (List.filter_sublist.map _).nodup nd
          · rw [p1]
            exact RepL.mono s1 _ _ (keysL kvs rk k)
        · exact h.elim
      · exact h.elim
    · exact h.elim
  · exact h.elim
theorem m_setdef (hK : X.K = c.K) (hu : X.A.units + 65 < cLine) : MtR X "dict.setdefault" (rVm c setdefD) := by
  intro pins s σ H x xs v us Q I rx r h
  obtain ⟨w, M, d, ds, E, S, r1, r2, h⟩ := h
  unfold setdefD at h
  split at h
  · rename_i i y z
    split at h
    · rename_i ks es hM
      split at h
      · rename_i hk
        obtain ⟨u1, u2, rfl, r3, r4⟩ := rep2 r2
        obtain ⟨a, rfl, hi⟩ := rep_ref.mp r1
        obtain ⟨kvs, xs2, dm, rfl, q1, rv⟩ := repO_dm (S.cell _ a _ hi hM)
        obtain ⟨k, b, rfl, rfl, hki, eb⟩ := keyI_ok (show kindK .tup y = true from hk.1) r3
        have lo := look_ok (f := fun k : List Key => D.tup (k.map kD)) (fun a b => by simp only [eqD, eqL_kD]) k rv
        obtain ⟨w1, w2, rfl, rq1, rq2⟩ := vals2 r
        have rx' : v = Value.ref a := rx
        subst rx'
        have rq1' : w1 = Value.ref b := rq1
        subst rq1'
        have hl : kvs.length < sizeLine := by have := hk.2; rw [List.length_map] at this; exact this
        have dm' : DMat X.K H a kvs xs2 := by rw [hK]; exact dm
        refine g_setdefault (by omega) I dm' hki (by rw [hK]; exact eb) hl (fun v2 w' s' hv I' rw' => ?_) fun hv s' I' => ?_
        · cases hl2 : lookK (D.tup (k.map kD)) (kvs.map fun p => D.tup (p.1.map kD)) es with
          | none => rw [hl2] at lo; have lo : valV kvs k = none := lo; rw [hv] at lo; cases lo
          | some d2 =>
            rw [hl2] at lo h
            obtain ⟨z2, e2, rz⟩ := lo
            rw [hv] at e2
            cases e2
            exact ⟨v2, H, I', rw', h.ret S rz⟩
        · cases hl2 : lookK (D.tup (k.map kD)) (kvs.map fun p => D.tup (p.1.map kD)) es with
          | some d2 =>
            rw [hl2] at lo
            obtain ⟨z2, e2, rz⟩ := lo
            rw [hv] at e2
            cases e2
          | none =>
            rw [hl2] at h
            have s1 : Stp w H w (upd H a (dM a (storedH xs2 k b w2))) := Stp.write hi (nf dm.at_ trivial)
            exact ⟨u2, _, I', rq2, h _ _ _ s1 (S.write hi (put_repM dm q1 rv hi hki r3 r4 rq2 hl)) (Rep.mono s1 _ _ r4)⟩
      · exact h.elim
    · exact h.elim
  · exact h.elim
theorem m_update (hK : X.K = c.K) (hu : X.A.units + 65 < cLine) : MtR X "dict.update" (rVm c updateD) := by
  intro pins s σ H x xs v us Q I rx r h
  obtain ⟨w, M, d, ds, E, S, r1, r2, h⟩ := h
  unfold updateD at h
  split at h
  · rename_i i j
    split at h
    · rename_i ks es ks2 es2 hM hN
      split at h
      · rename_i hk
        obtain ⟨hij, hne, hl⟩ := hk
        obtain ⟨u, rfl, r3⟩ := rep1 r2
        obtain ⟨a, rfl, hi⟩ := rep_ref.mp r1
        obtain ⟨b, rfl, hj⟩ := rep_ref.mp r3
        obtain ⟨kvs, xs1, dm, rfl, q1, rv⟩ := repO_dm (S.cell _ a _ hi hM)
        obtain ⟨kvs2, xs2, dm2, rfl, q2, rv2⟩ := repO_dm (S.cell _ b _ hj hN)
        obtain ⟨w1, rfl, rq⟩ := vals1 r
        have rx' : v = Value.ref a := rx
        subst rx'
        have rq' : w1 = Value.ref b := rq
        subst rq'
        rw [List.length_map, List.length_map] at hl
        have hl' : kvs.length + kvs2.length ≤ sizeLine := hl
        have hab : a ≠ b := fun z => by
          subst z
          obtain ⟨h1, e3⟩ := List.getElem?_eq_some_iff.mp hi
          obtain ⟨h2, e4⟩ := List.getElem?_eq_some_iff.mp hj
          exact hij ((List.getElem_inj S.nd).mp (e3.trans e4.symm))
        have dm' : DMat X.K H a kvs xs1 := by rw [hK]; exact dm
        have dm2' : DMat X.K H b kvs2 xs2 := by rw [hK]; exact dm2
        obtain ⟨kvs', i1, i2, i3, i4, i5, i6, i7⟩ := merge_okM kvs2 xs2 es2 dm2.kn dm2.ki q2 rv2 kvs xs1 es dm.kn dm.nd dm.ki q1 rv
        refine g_update (by omega) I dm' dm2' hab (fun z => hne (by rw [z]; rfl)) hl' fun s' I' => ⟨.non, _, I', rfl, ?_⟩
        have s1 : Stp w H w (upd H a (dM a (storedAllH xs1 xs2))) := Stp.write hi (nf dm.at_ trivial)
        refine h _ _ _ s1 (S.write hi ⟨?_, ?_, kvs', storedAllH xs1 xs2, upd_same, dm.sm, i1, i2, i3, i5, fun q hq => Rep.mono s1 _ _ (i4 q hq), RepL.mono s1 _ _ i6⟩) (rep_non.mpr rfl)
        · rw [i5, i6.len]; simp
        · rw [i5, List.length_map]; omega
      · exact h.elim
    · exact h.elim
  · exact h.elim
theorem m_dclear : MtR X "dict.clear" (rVm c dclearD) := by
  intro pins s σ H x xs v us Q I rx r h
  obtain ⟨w, M, d, ds, E, S, r1, r2, h⟩ := h
  unfold dclearD at h
  split at h
  · rename_i i
    split at h
    · rename_i ks es hM
      obtain ⟨a, rfl, hi⟩ := rep_ref.mp r1
      obtain ⟨l, z, kvs, e, nd, rfl, rk, rv⟩ := S.cell _ a _ hi hM
      simp only [RepL] at r2
      subst r2
      cases r
      have rx' : v = Value.ref a := rx
      subst rx'
      refine d_clear I e fun s' I' => ⟨.non, _, I', rfl, ?_⟩
      have s1 : Stp w H w (upd H a (.dK [])) := Stp.write hi (nf e trivial)
      exact h _ _ _ s1 (S.write hi ⟨rfl, Nat.zero_le _, [], upd_same, List.nodup_nil, rfl, RepL.nil, RepL.nil⟩) (rep_non.mpr rfl)
    · exact h.elim
  · exact h.elim
theorem b_dict (hK : X.K = c.K) (hc : X.calm = true) (hu : X.A.units + 65 < cLine) : CallR X (.type "dict") (rVn c dictD) := by
  intro pins s σ H xs us Q I r h
  obtain ⟨w, M, ds, E, S, r1, h⟩ := h
  unfold dictD at h
  split at h
  · split at h
    · rename_i ks es hd
      obtain ⟨v, rfl, r2⟩ := rep1 r1
      obtain ⟨i, a, rfl, rfl, hi, hM, hO⟩ := dicOf_ok S hd r2
      obtain ⟨l, z, kvs, e, nd, rfl, rk, rv⟩ := hO
      refine call_dictD pins s σ H _ us Q I r ⟨a, kvs, rfl, .inl e, fun p hp => ?_⟩
      have s1 : Stp w H (w.push p) (upd H p (.dK kvs)) := Stp.push hp
      refine h (w.push p) _ _ s1 (S.push hp ⟨l, z, kvs, upd_same, nd, rfl, RepL.mono s1 _ _ rk, RepL.mono s1 _ _ rv⟩) (rep_ref.mpr ⟨p, rfl, ?_⟩)
      show (w.ι ++ [p])[M.length]? = some p
      rw [← S.len]
      exact List.getElem?_concat_length
    · exact h.elim
    · split at h
      · rename_i ks es he
        obtain ⟨xs2, hx, hp⟩ := Option.bind_eq_some_iff.mp he
        obtain ⟨v, rfl, r2⟩ := rep1 r1
        obtain ⟨a, vs2, rfl, hq, z, rr⟩ := lstOf_ok S hx r2
        obtain ⟨ps, kvs, rfl, i2, rfl, i4, i5, i6⟩ := pairs_rep hp rr
        refine call_dictP hc pins s σ H _ us Q I r ⟨a, ps, kvs, rfl, by rw [hK]; exact hq, by rw [hK]; exact i2, fun p hp => ?_⟩
        exact new_merge S i4 i5 (by rw [i6]; exact z) hp h
      · split at h
        · rename_i ks es he
          obtain ⟨xs2, hx, hp⟩ := Option.bind_eq_some_iff.mp he
          obtain ⟨v, rfl, r2⟩ := rep1 r1
          obtain ⟨a, vs2, rfl, hq, z, rr⟩ := lstOf_ok S hx r2
          obtain ⟨ps, qs, rfl, i2, i3, rfl, i5, i6, i7⟩ := pairsM_rep hp rr
          refine call_dict_dM hc hu pins s σ H _ us Q I r ⟨a, ps, qs, rfl, by rw [hK]; exact hq, by rw [hK]; exact i2, i3, fun p rs hp3 hs hr => ?_⟩
          have kn : KN (qs.map fun q => (q.1, q.2.2)) rs := by
            clear h i5 i6 i3 i2 i7 hp he
            induction hr with
            | nil => exact .nil
            | cons h t ih => exact .cons ⟨h.1, h.2.2⟩ ih
          have kr : ∀ q ∈ rs, Rep c w H (.tup (q.1.map kD)) (.ref q.2.1) := by
            clear h i5 i3 i2 i7 hp he kn
            induction hr with
            | nil => intro q hq; cases hq
            | cons h t ih =>
              intro q hq
              rcases List.mem_cons.mp hq with e | hq
              · rw [e, ← h.1, ← h.2.1]; exact i6 _ List.mem_cons_self
              · exact ih (fun q hq => i6 q (List.mem_cons_of_mem _ hq)) q hq
          obtain ⟨kvs', j1, j2, j3, j4, j5, j6, j7⟩ := merge_okM (c := c) (w := w) (H := H) (qs.map fun q => (q.1, q.2.2)) rs es kn (fun p hp => by
            obtain ⟨q, hq, e⟩ := List.mem_map.mp hp
            rw [← e]; exact i3 q hq) kr (by rw [List.map_map]; exact i5) [] [] [] .nil List.nodup_nil (by simp) (by simp) RepL.nil
          have em : (qs.map fun q => (q.1, q.2.2)).map (fun p : List Key × V => D.tup (p.1.map kD)) = qs.map fun q => D.tup (q.1.map kD) := by rw [List.map_map]; rfl
          rw [em] at j5 j6
          have s1 : Stp w H (w.push p) (upd H p (dM p (storedAllH [] rs))) := Stp.push hp3
          refine h (w.push p) _ _ s1 (S.push hp3 ⟨?_, ?_, kvs', storedAllH [] rs, upd_same, hs, j1, j2, j3, j5, fun q hq => Rep.mono s1 _ _ (j4 q hq), RepL.mono s1 _ _ j6⟩) (rep_ref.mpr ⟨p, rfl, ?_⟩)
          · rw [show (mergeD (qs.map fun q => D.tup (q.1.map kD)) es ([], [])).1 = _ from j5, show (mergeD (qs.map fun q => D.tup (q.1.map kD)) es ([], [])).2.length = _ from j6.len]; simp
          · rw [show (mergeD (qs.map fun q => D.tup (q.1.map kD)) es ([], [])).1 = _ from j5, List.length_map]
            simp at j7
            omega
          · show (w.ι ++ [p])[M.length]? = some p
            rw [← S.len]
            exact List.getElem?_concat_length
        · exact h.elim
  · exact h.elim
theorem lexLt_eq : ∀ (x y : List Int), listLt x y = lexLt x y
  | [], [] => rfl
  | [], _ :: _ => rfl
  | _ :: _, [] => rfl
  | x :: xs, y :: ys => by
    show (if x = y then listLt xs ys else decide (x < y)) = (if x = y then lexLt xs ys else decide (x < y))
    rw [lexLt_eq xs ys]
structure SKind {β : Type} (f : β → D) (le : β → β → Bool) (bs : List β) : Prop where
  pl : ∀ b, plain 2 (f b) = true
  sn : ∀ M b, snap M 2 (f b) = f b
  le : dataLe false (fun b => toPy (f b)) = le
  al : AllAlike (bs.map fun b => toPy (f b))
  so : Sortable (bs.map fun b => toPy (f b))
theorem skI (ns : List Int) : SKind D.int (fun a b => decide (a ≤ b)) ns where
  pl b := rfl
  sn M b := rfl
  le := by
    have e : (fun b : Int => toPy (.int b)) = fun b => .int b := by funext b; simp [toPy]
    rw [e]
    exact dataLe_int (fun b : Int => b)
  al := by
    intro d hd d' hd'
    obtain ⟨a, _, rfl⟩ := List.mem_map.mp hd
    obtain ⟨b, _, rfl⟩ := List.mem_map.mp hd'
    simp [toPy, alike]
  so := by
    refine .inr fun d hd => ?_
    obtain ⟨a, _, rfl⟩ := List.mem_map.mp hd
    simp [toPy]
theorem skS (ss : List (List Nat)) : SKind D.str (fun a b => decide (a ≤ b)) ss where
  pl b := rfl
  sn M b := rfl
  le := by
    have e : (fun b : List Nat => toPy (.str b)) = fun b => .str (toS b) := by funext b; simp [toPy, toS]
    rw [e, dataLe_str toS]
    rfl
  al := by
    intro d hd d' hd'
    obtain ⟨a, _, rfl⟩ := List.mem_map.mp hd
    obtain ⟨b, _, rfl⟩ := List.mem_map.mp hd'
    simp [toPy, alike]
  so := by
    refine .inr fun d hd => ?_
    obtain ⟨a, _, rfl⟩ := List.mem_map.mp hd
    simp [toPy]
theorem toPy_tup (t : List Int) : toPy (tupD t) = Datum.toD (⟨t⟩ : Tup Int) := by
  show toPy (.tup (t.map D.int)) = PyData.tuple (t.map fun i => PyData.int i)
  simp only [toPy, toPys_map, List.map_map]
  rfl
theorem plainL_ints : ∀ (n : Nat) (t : List Int), plainL n (t.map D.int) = true
  | _, [] => rfl
  | n, i :: t => by
    rw [List.map_cons, plainL, plainL_ints n t, Bool.and_true]
    cases n <;> rfl
theorem skT {ts : List (List Int)} (h : ts.all (fun t => !t.isEmpty) = true) : SKind tupD (fun a b => !lexLt b a) ts where
  pl b := by
    show plainL 1 (b.map D.int) = true
    exact plainL_ints 1 b
  sn M b := by
    show D.tup ((b.map D.int).map (snap M 1)) = D.tup (b.map D.int)
    rw [List.map_map]
    rfl
  le := by
    rw [dataLe_eq]
    funext a b
    show (!dataLt (toPy (tupD b)) (toPy (tupD a))) = !lexLt b a
    rw [toPy_tup, toPy_tup, DatumOrd.lt_eq]
    show (!listLt b a) = !lexLt b a
    rw [lexLt_eq]
  al := by
    intro d hd d' hd'
    obtain ⟨a, _, rfl⟩ := List.mem_map.mp hd
    obtain ⟨b, _, rfl⟩ := List.mem_map.mp hd'
    rw [toPy_tup, toPy_tup]
    exact DatumOrd.alike _ _
  so := by
    refine .inl fun d hd => ?_
    obtain ⟨a, ha, rfl⟩ := List.mem_map.mp hd
    have := List.all_eq_true.mp h a ha
    cases a with
    | nil => simp at this
    | cons x r =>
      rw [toPy_tup]
      exact ⟨_, _, rfl⟩
theorem tupsOf_eq : ∀ {xs : List D} {ts : List (List Int)}, tupsOf xs = some ts → xs = ts.map tupD
  | [], ts, h => by cases h; rfl
  | x :: xs, ts, h => by
    cases x with
    | tup ys =>
      simp only [tupsOf] at h
      split at h
      · rename_i ns hn
        obtain ⟨us, e, rfl⟩ := Option.map_eq_some_iff.mp h
        rw [tupsOf_eq e, List.map_cons]
        congr 1
        show D.tup ys = D.tup (ns.map D.int)
        congr 1
        clear h e
        induction ys generalizing ns with
        | nil => cases hn; rfl
        | cons y ys ih =>
          cases y with
          | int i =>
            simp only [intsOf] at hn
            obtain ⟨ms, e, rfl⟩ := Option.map_eq_some_iff.mp hn
            rw [List.map_cons, ih _ e]
          | _ => simp [intsOf] at hn
      · cases h
    | _ => simp [tupsOf] at h
theorem intsOf_eq : ∀ {ys : List D} {ns : List Int}, intsOf ys = some ns → ys = ns.map D.int
  | [], ns, h => by cases h; rfl
  | y :: ys, ns, hn => by
    cases y with
    | int i =>
      simp only [intsOf] at hn
      obtain ⟨ms, e, rfl⟩ := Option.map_eq_some_iff.mp hn
      rw [List.map_cons, intsOf_eq e]
    | _ => simp [intsOf] at hn
theorem strsOf_eq : ∀ {ys : List D} {ns : List (List Nat)}, strsOf ys = some ns → ys = ns.map D.str
  | [], ns, h => by cases h; rfl
  | y :: ys, ns, hn => by
    cases y with
    | str i =>
      simp only [strsOf] at hn
      obtain ⟨ms, e, rfl⟩ := Option.map_eq_some_iff.mp hn
      rw [List.map_cons, strsOf_eq e]
    | _ => simp [strsOf] at hn
theorem sortedL_kind {xs ys : List D} (h : sortedL xs = some ys) : ∃ (β : Type) (f : β → D) (le : β → β → Bool) (bs : List β), SKind f le bs ∧ xs = bs.map f ∧ ys = (bs.mergeSort le).map f := by
  unfold sortedL at h
  split at h
  · rename_i ns hn
    cases h
    exact ⟨_, _, _, ns, skI ns, intsOf_eq hn, rfl⟩
  · split at h
    · rename_i ts ht
      split at h
      · rename_i ha
        cases h
        exact ⟨_, _, _, ts, skT ha, tupsOf_eq ht, rfl⟩
      · cases h
    · obtain ⟨ss, e, rfl⟩ := Option.map_eq_some_iff.mp h
      exact ⟨_, _, _, ss, skS ss, strsOf_eq e, rfl⟩
theorem each_of {β : Type} {f : β → D} : ∀ {bs : List β} {vs : List V} {its : List Value}, RepL c w H (bs.map f) vs → Vals vs its → EachIs (fun v b => ∃ x, RelV x v ∧ Rep c w H (f b) x) its bs
  | [], vs, its, r, rv => by
    simp only [List.map_nil, RepL] at r
    subst r
    cases rv
    exact .nil
  | b :: bs, vs, its, r, rv => by
    obtain ⟨v, q, rfl, r1, r2⟩ := r.uncons
    cases rv with
    | cons h t => exact .cons ⟨v, h, r1⟩ (each_of r2 t)
theorem of_each {β : Type} {f : β → D} : ∀ {bs : List β} {its : List Value}, EachIs (fun v b => ∃ x, RelV x v ∧ Rep c w H (f b) x) its bs → ∃ vs, Vals vs its ∧ RepL c w H (bs.map f) vs
  | _, _, .nil => ⟨[], .nil, RepL.nil⟩
  | _, _, .cons ⟨x, h1, h2⟩ t => by
    obtain ⟨vs, a, b⟩ := of_each t
    exact ⟨x :: vs, .cons h1 a, RepL.cons h2 b⟩
theorem reads_of {β : Type} {f : β → D} {le : β → β → Bool} {bs bs' : List β} {pins : List (Addr × Obj)} {σ : L2.St} {s : Shared} {its : List Value} (hK : X.K = c.K) (I : Inv X pins σ H s) (S : Sim c w M H) (k : SKind f le bs') (e : EachIs (fun v b => ∃ x, RelV x v ∧ Rep c w H (f b) x) its bs) :
    EachIs (fun v b => ∃ as, Reads s.heap v (toPy (f b)) as) its bs := e.mono fun v b ⟨x, h1, h2⟩ => by
  have := (snapDp S 2 (f b) x h2 (by rw [k.sn]; exact k.pl b)).1
  rw [k.sn, ← hK] at this
  exact Dp.reads I _ x v this h1
theorem depth_of {β : Type} {f : β → D} {le : β → β → Bool} {bs : List β} {vs : List V} (S : Sim c w M H) (k : SKind f le bs) (r : RepL c w H (bs.map f) vs) : ∀ b ∈ bs, (toPy (f b)).depth ≤ 2 := by
  intro b hb
  obtain ⟨i, hi, e⟩ := List.mem_iff_getElem.mp (List.mem_map.mpr ⟨b, hb, rfl⟩ : f b ∈ bs.map f)
  obtain ⟨v, _, rb⟩ := r.get (show (bs.map f)[i]? = some (f b) by rw [List.getElem?_eq_getElem hi, e])
  have := (snapDp S 2 (f b) v rb (by rw [k.sn]; exact k.pl b)).2.2
  rw [k.sn] at this
  exact this
theorem b_sorted (hK : X.K = c.K) (hc : X.calm = true) (hu : X.A.units + 65 < cLine) (m : Bool) : CallR X (.builtin "sorted") (rVn c (sortedD m)) := by
  intro pins s σ H xs us Q I r h
  obtain ⟨w, M, ds, E, S, r1, h⟩ := h
  unfold sortedD at h
  split at h
  · split at h
    · rename_i ys hy
      obtain ⟨zs, e1, e2⟩ := Option.bind_eq_some_iff.mp hy
      obtain ⟨v, rfl, r2⟩ := rep1 r1
      obtain ⟨a, vs, rfl, q, z, rr⟩ := lstOf_ok S e1 r2
      obtain ⟨β, f, le, bs, k, rfl, rfl⟩ := sortedL_kind e2
      obtain ⟨its, rv, hl, hz⟩ := I.list (by rw [hK]; exact q)
      rw [Vals.ref1 r]
      rw [List.length_map] at z
      have he := each_of rr rv
      have hd := depth_of S k rr
      refine sorted_data (R := fun v b => ∃ x, RelV x v ∧ Rep c w H (f b) x) hl.isList he (reads_of hK I S k he) k.al k.so z (fun b hb => by have := hd b hb; omega) fun out ho eo => ?_
      rw [k.le] at eo
      obtain ⟨us', ru, rs⟩ := of_each eo
      obtain ⟨ep, he'⟩ := PyProof.Rows.sortedAll_at s.heap its out.toArray
      have hlen : ((bs.mergeSort le).map f).length ≤ sizeLine := by rw [List.length_map, List.length_mergeSort]; exact z
      exact ⟨.ref _, upd H (s.heap.objs.size + 1) (.lst us'), I.laid (t' := s.toks) (fun _ _ => PyProof.Rows.sortedAll_old) (Nat.le_succ _) ⟨by rw [← rs.len]; exact hlen, out, ep, ru, he'⟩, rfl, mkL_ok S rs hlen h _ (I.hok.fresh (Nat.le_succ _))⟩
    · split at h
      · rename_i t ks vs e1
        split at h
        · rename_i ys e2
          obtain ⟨v, rfl, r2⟩ := rep1 r1
          obtain ⟨i, a, rfl, rfl, hi, hM, hO⟩ := dicOf_ok S e1 r2
          obtain ⟨l, z, hh⟩ := hO
          obtain ⟨β, f, le, bs, k, rfl, rfl⟩ := sortedL_kind e2
          rw [List.length_map] at z
          have key : ∃ (vs : List V) (o : Obj) (es : Array DictEntry) (ep : Nat), s.heap.get? a = some o ∧ o.ExactDict ∧ o.data = .dict es ep ∧ Vals vs (es.toList.map (·.key)) ∧ (a == sysModules) = false ∧ RepL c w H (bs.map f) vs := by
            have ofK : ∀ (kz : List (List Key × Addr × Value)) (es : Array DictEntry), es.toList = kz.map (entryOfKey (tupleKind (mixKind X.prog X.w))) → Vals ((kz.map fun x => x.2.1).map V.ref) (es.toList.map (·.key)) := by
              intro kz es hes
              have e : (kz.map (entryOfKey (tupleKind (mixKind X.prog X.w)))).map (·.key) = (kz.map fun x => x.2.1).map Value.ref := by rw [List.map_map, List.map_map]; all_goals rfl
              rw [hes, e]
              exact vals_refs _
            cases t with
            | one =>
              obtain ⟨kvs, hd, n, ek, rk, rv⟩ := hh
              obtain ⟨_, hs, us0, rr0, o, es, ep, ho, hx, hdt, _, hp, hnd⟩ := (show ObjOk X.prog X.w H s.heap a (.dK kvs) from I.hok a _ hd)
              refine ⟨kvs.map fun p => kV p.1, o, es, ep, ho, hx, hdt, ?_, hs, rk⟩
              have ekk : (kvs.map fun p => kV p.1) = (us0.map (·.1)).map kV := by rw [← KV.keys rr0, List.map_map]; all_goals rfl
              rw [ekk]
              clear ekk hdt hnd
              generalize es.toList = el at hp
              clear rr0
              induction hp with
              | nil => exact .nil
              | cons h1 _ _ ih => exact .cons (keyIs_rel h1) ih
            | tup =>
              obtain ⟨kvs, kz, dm, ek, r1, rv⟩ := repO_dm (c := c) ⟨l, by rw [List.length_map]; exact z, hh⟩
              have dm' : DMat X.K H a kvs kz := by rw [hK]; exact dm
              obtain ⟨o, es, ep, ho, hx, hdt, hes, _, hn⟩ := dm'.of I
              have h3 := keysRepM dm.kn ek r1
              have em : (kz.map fun x => V.ref x.2.1) = (kz.map fun x => x.2.1).map V.ref := by rw [List.map_map]; all_goals rfl
              rw [em] at h3
              exact ⟨_, o, es, ep, ho, hx, hdt, ofK kz es hes, dm.sm, h3⟩
            | two =>
              obtain ⟨kvs, hd, n, ek, rk, rv⟩ := hh
              obtain ⟨z', hs, kz, pr, o, es, ep, ho, hx, hdt, hes, hn⟩ := (show ObjOk X.prog X.w H s.heap a (.dT kvs) from I.hok a _ hd)
              have h3 : RepL c w H (bs.map f) ((kz.map fun x => x.2.1).map V.ref) := keysRep S rk (isKeys_of pr) ek
              exact ⟨_, o, es, ep, ho, hx, hdt, ofK kz es hes, hs, h3⟩
          obtain ⟨kv, o, es, ep, ho, hx, hdt, hkv, hs, rr⟩ := key
          rw [Vals.ref1 r]
          have l2 : kv.length = es.size := by have := hkv.length; simpa using this
          have l1 : bs.length = es.size := by have := rr.len; rw [List.length_map] at this; omega
          refine Calls.call_function_entry PyProof.Rows.kind_sorted PyProof.Rows.plain_sorted PyProof.Rows.entry_sorted (PyProof.Rows.args_sorted1 _) ?_
          unfold Builtin.«sorted»
          refine wpAny_bind (m := checkCount "sorted" 1 1 _) (wpAny_pure ?_)
          refine wpAny_bind (PySem.W.kdu_collect (A := X.A.in1) (kdl_raw hs hx hdt) (I.ok.hd hc) ho (by omega) fun h' tk acc' hk it => ?_)
          have ea : acc'.toList = es.toList.map (·.key) := by
            apply List.ext_getElem?
            intro j
            rw [List.getElem?_map]
            cases hj : acc'.toList[j]? with
            | none =>
              have h1 := List.getElem?_eq_none_iff.mp hj
              rw [Array.length_toList, it.1] at h1
              rw [List.getElem?_eq_none (by rw [Array.length_toList]; exact h1)]
              all_goals rfl
            | some v =>
              obtain ⟨en, hen, hv⟩ := it.2 j v (by rw [← Array.getElem?_toList]; exact hj)
              rw [Array.getElem?_toList, hen, hv]
              all_goals rfl
          have rv : Vals kv acc'.toList := by rw [ea]; exact hkv
          have I1 : Inv X pins σ H { s with heap := h', toks := tk } := I.kept hk
          have hal : acc'.toList.length = bs.length := by rw [Array.length_toList, it.1]; omega
          refine wpAny_bind (wpAny_newList ?_ (by rw [hal]; exact z))
          have hoL : (h'.push (seqObj "list" acc'.toList.toArray 0)).get? h'.objs.size = some (seqObj "list" acc'.toList.toArray 0) := Heap.get?_push_size _ rfl
          show wpAny _ _ _ _ _ { s with heap := h'.push (seqObj "list" acc'.toList.toArray 0), toks := tk }
          have he := each_of rr rv
          have hd2 := depth_of S k rr
          have er := reads_of hK I1 S k he
          have er' : EachIs (fun v b => ∃ as, Reads (sortingHeap (h'.push (seqObj "list" acc'.toList.toArray 0)) h'.objs.size acc'.toList) v (toPy (f b)) as) acc'.toList bs :=
            er.mono fun v b ⟨as, rd⟩ => ⟨as, PyProof.Rows.Reads.keeps (fun b o q => by
              have hb : b < h'.objs.size := Heap.lt_size q
              exact sortingHeap_old (Nat.ne_of_lt hb) (Heap.get?_push_of_some _ q)) rd⟩
          refine wpAny_bind (wpAny_holding (wpAny_call_entry PyProof.Rows.slot_list_sort ⟨_, hoL, rfl⟩ PyProof.Rows.entry_list_sort
            (list_sort_vals (s := { s with heap := h'.push (seqObj "list" acc'.toList.toArray 0), toks := tk }) hoL (SortsAt.data (s := { s with heap := sortingHeap (h'.push (seqObj "list" acc'.toList.toArray 0)) h'.objs.size acc'.toList, toks := tk }) (each_map (R := fun v d => ∃ as, Reads (sortingHeap (h'.push (seqObj "list" acc'.toList.toArray 0)) h'.objs.size acc'.toList) v d as) (fun b => toPy (f b)) er') k.al k.so
              (bound_map (enc := fun b => toPy (f b)) fun b hb => by have := hd2 b hb; have e : X.A.in1.in1.units = X.A.units + 1 + 1 := rfl; omega)) (by rw [hal]; exact z) ⟨_, rfl, ?_⟩)
            (PyProof.Rows.args_list_sort _)))
          have eo := sortVals_data false he er' k.al
          rw [k.le] at eo
          obtain ⟨us', ru, rs⟩ := of_each eo
          obtain ⟨e', he'⟩ := PyProof.Rows.sortedHeap_at (vs := acc'.toList) (out := (sortVals (dataKind (sortingHeap (h'.push (seqObj "list" acc'.toList.toArray 0)) h'.objs.size acc'.toList) (bs.map fun b => toPy (f b))) false acc'.toList acc'.toList).toArray) hoL
          have hlen : ((bs.mergeSort le).map f).length ≤ sizeLine := by rw [List.length_map, List.length_mergeSort]; exact z
          refine wpAny_pure ⟨_, rfl, .ref h'.objs.size, upd H h'.objs.size (.lst us'), I1.laid (t' := tk) (fun b u e => ?_) (Nat.le_refl _)
            (show ObjOk X.prog X.w _ _ _ (.lst us') from ⟨by rw [← rs.len]; exact hlen, _, e', ru, he'⟩), rfl, mkL_ok S rs hlen h _ (I1.hok.fresh (Nat.le_refl _))⟩
          have hb : b < h'.objs.size := Heap.lt_size e
          rw [PyProof.Rows.sortedHeap_old (Nat.ne_of_lt hb) (by rw [size_push']; exact Nat.lt_succ_of_lt hb)]
          exact Heap.get?_push_of_some _ e
        · exact h.elim
      · exact h.elim
  · exact h.elim
end
end Fw
namespace Fw
open PySem PySem.Spec PyProof.Rows L2
def spInit (K : PySem.W.Frag) : Sp := fun vs H Q _ => ∃ (a C : Addr) (v : V), vs = [.ref a, v] ∧ H a = some (exo a C none) ∧ OexC K C ∧ PySem.W.findIn K (.ref C) "at" = some none ∧
  ∀ d, H d = none → d ≠ a → Q .non (upd (upd H d (exd d [("at", v)])) a (exo a C (some d)))
def initBody (body : List Stmt) : Bool := match body with
  | [.Assign [.Attribute (.Name s _) n _] (.Name v _) _] => decide (s = "self") && decide (n = "at") && decide (v = "at")
  | _ => false
theorem init_ok {P : Program} {w : World} {K : PySem.W.Frag} {mg : Str → Option Value} {base : Heap} {x y : Str} {params : Arguments} {body : List Stmt} {sc : Scope} {dvs : List V} {kws : List (Str × V)} {f : Addr} {fd : FuncData}
    (F : FunD K x y params body sc dvs kws f fd) (S : FnScope ["self", "at"] ["self", "at"] sc) (hb : initBody body = true) : FnOk P w K mg base (L2.CX P w) 1 f fd ["self", "at"] (spInit K) := by
  refine F.ok (k := 0) S (fun vs H Q E h => ?_) fun cdv A outer s H vs Q E hr h => ?_
  · obtain ⟨a, C, v, rfl, _⟩ := h
    rfl
  · unfold initBody at hb
    split at hb
    · simp only [Bool.and_eq_true, decide_eq_true_eq] at hb
      obtain ⟨⟨rfl, rfl⟩, rfl⟩ := hb
      have hv : ∀ {z : Str}, z ∈ (["self", "at"] : List Str) → Vis sc z := fun {z} hz => by
        rcases S.par z hz with q | q
        · exact .inl q
        · exact .inr (.inl q)
      refine ⟨_, pss_one (ps_ost (pe_var (i := 0) rfl (hv (by simp)) (by decide +kernel) (by decide +kernel)) (pe_var (i := 1) rfl (hv (by simp)) (by decide +kernel) (by decide +kernel))), ?_⟩
      obtain ⟨a, C, v, rfl, ha, T, no, q⟩ := h
      exact ⟨v, rfl, .ref a, rfl, a, C, rfl, T, no, .inl ⟨ha, fun d hd hne => q d hd hne⟩⟩
    · cases hb
theorem init_okH {P : Program} {w : World} {K : PySem.W.Frag} {mg : Str → Option Value} {base : Heap} {x y : Str} {params : Arguments} {body : List Stmt} {sc : Scope} {dvs : List V} {kws : List (Str × V)} {f : Addr} {fd : FuncData}
    (F : FunD K x y params body sc dvs kws f fd) (S : FnScope ["self", "at"] ["self", "at"] sc) (hb : initBody body = true) : L2H.FnH P w K mg base (L2.CX P w) 1 f fd ["self", "at"] (spInit K) := by
  obtain ⟨oc, od, dV, kV, doc, pm, an, cdv, ct, osl, rfl, lk, hcd, _, _⟩ := F.ex
  refine L2H.fn_ofH (k := 0) lk hcd S (fun vs H Q E h => ?_) fun A outer s H vs Q E p hot hr h => ?_
  · obtain ⟨a, C, v, rfl, _⟩ := h
    rfl
  · unfold initBody at hb
    split at hb
    · simp only [Bool.and_eq_true, decide_eq_true_eq] at hb
      obtain ⟨⟨rfl, rfl⟩, rfl⟩ := hb
      have hv : ∀ {z : Str}, z ∈ (["self", "at"] : List Str) → Vis sc z := fun {z} hz => by
        rcases S.par z hz with q | q
        · exact .inl q
        · exact .inr (.inl q)
      refine ⟨_, pss_one (ps_ost (pe_var (i := 0) rfl (hv (by simp)) (by decide +kernel) (by decide +kernel)) (pe_var (i := 1) rfl (hv (by simp)) (by decide +kernel) (by decide +kernel))), ?_⟩
      obtain ⟨a, C, v, rfl, ha, T, no, q⟩ := h
      exact ⟨v, rfl, .ref a, rfl, a, C, rfl, T, no, .inl ⟨ha, fun d hd hne => q d hd hne⟩⟩
    · cases hb
structure RkOk (c : Ct) (rk : Nat → Option Bool) (df : Nat → Bool) (P : Program) (w : World) (mg : Str → Option Value) (base : Heap) : Prop where
  pl : ∀ k, rk k = some false → PySem.W.excIn c.K (c.ca k) He.veBase "ValueError.__new__" = true ∧ PySem.W.keepIn c.K (.ref (c.ca k)) = true ∧ PySem.W.subIn c.K (.ref (c.ca k)) (.type "BaseException") = some true ∧ PySem.W.typeIn c.K (.ref (c.ca k)) = some (.type "type")
  ow : ∀ k, rk k = some true → OexC c.K (c.ca k) ∧ PySem.W.findIn c.K (.ref (c.ca k)) "at" = some none ∧ ∃ (fI : Addr) (fd : FuncData), PySem.W.findIn c.K (.ref (c.ca k)) "__init__" = some (some (.ref fI)) ∧ PySem.W.typeIn c.K (.ref fI) = some (.type "function") ∧
    FnOk P w c.K mg base (L2.CX P w) 1 fI fd ["self", "at"] (spInit c.K) ∧ L2H.FnH P w c.K mg base (L2.CX P w) 1 fI fd ["self", "at"] (spInit c.K) ∧ Binds c.K fd ["self", "at"] [] ∧ (df k = true → Binds c.K fd ["self", "at"] [.none])
section
variable {c : Ct} {W : WX} {X : Cx}
theorem pmk_oex0 {CX : CXT} {x : Str} {C fI : Addr} {k : Nat} {fd : FuncData} {ps : List Str} {sp : Sp} {ds : List Value} {dvs : List V} {p pos : Pos} (T : OexC X.K C) (iC : PySem.W.findIn X.K (.ref C) "__init__" = some (some (.ref fI))) (tI : PySem.W.typeIn X.K (.ref fI) = some (.type "function"))
    (F1 : FnOk X.prog X.w X.K X.mg X.base CX k fI fd ps sp) (hr : Room (k + 1) X.A) (hb : Binds X.K fd ps ds) (hd : Vals dvs ds) (hx : Passes CX X (fun _ _ _ => False)) (hg : Gl X x) (hm : X.mg x = some (.ref C))
    (hdb : (x == ("__debug__" : Str)) = false) :
    L2N.PMk X (.Call (.Name x p) [] [] pos) (tMkO C sp dvs tNil) := by
  intro pins s σ H Q I h
  obtain ⟨nm, q, N, bs, bm, sn, sub, ab, col, dd, k0, k1, k2, k3, k5, hC, hbm⟩ := T.cls
  refine wpAny_Call_Name_kw (ld_glob I hg hm ?_ hdb)
  refine PySem.W.callWith_K0 I.kIn T.kC ?_
  show wpAny _ _ (call (.ref C) []) _ _ _
  obtain ⟨_, q1⟩ := (show [].length ≤ 1000 ∧ _ from h)
  obtain ⟨hp, g, dr, tk, os⟩ := s
  have hsz : hp.objs.size ≤ hp.objs.size + 1 := Nat.le_succ _
  have hn : H (hp.objs.size + 1) = none := I.hok.fresh hsz
  have hq := q1 (hp.objs.size + 1) hn
  have kk : ∀ b o, hp.get? b = some o → ((hp.push (PySem.W.kdv_tup [])).push (PySem.HandSPX.excO C hp.objs.size)).get? b = some o := fun b o e => Heap.get?_push_of_some _ (Heap.get?_push_of_some _ e)
  have hget : ((hp.push (PySem.W.kdv_tup [])).push (PySem.HandSPX.excO C hp.objs.size)).get? (hp.objs.size + 1) = some (PySem.HandSPX.excO C hp.objs.size) := by heap_get
  have I2 : Inv X pins σ (upd H (hp.objs.size + 1) (exo (hp.objs.size + 1) C none)) ⟨(hp.push (PySem.W.kdv_tup [])).push (PySem.HandSPX.excO C hp.objs.size), g, dr, tk, os⟩ :=
    I.laid (t' := tk) (a := hp.objs.size + 1) (o := exo (hp.objs.size + 1) C none) (h' := (hp.push (PySem.W.kdv_tup [])).push (PySem.HandSPX.excO C hp.objs.size)) kk hsz (exo_ok hget)
  have r2 : Vals (V.ref (hp.objs.size + 1) :: dvs) (Value.ref (hp.objs.size + 1) :: ds) := .cons rfl hd
  have hl : (Value.ref (hp.objs.size + 1) :: ds).length = ps.length := by
    have e := r2.length
    have e2 := F1.len _ _ _ _ hq
    rw [List.nil_append] at e2
    rw [e2] at e
    exact e.symm
  refine wpAny_call (PySem.HandSPX.call_own F.excBase_ValueError (fun Y => PySem.HandSPX.refsVE_contains Y bm hbm) (I.kIn _ _ hC) (PySem.W.looks_findIn I.kIn iC) (fun self => PySem.W.bind_fn I.kIn self tI) (by simp)
    (codeAny_mono (F1.run _ X.stack _ _ ⟨Value.ref (hp.objs.size + 1) :: [], []⟩ (Value.ref (hp.objs.size + 1) :: ds) _ _ (fun _ _ _ => False) (hr.make C [] []) (I2.env0.make C [] []) (hb _ (Value.ref (hp.objs.size + 1) :: []) I2.kIn hl) r2 hq) fun r s' hq' => ?_))
  cases r with
  | error er => exact hx pins σ _ _ er s' I2 hq'
  | ok fl =>
    cases fl with
    | ret u =>
      obtain ⟨v, H2, os2, bare2, un2, hok2, rv, ev, d, fs, ea, ed, hd1, q2⟩ := hq'
      subst ev
      obtain ⟨h2, g2, d2, t2, os'⟩ := s'
      obtain ⟨t0, G, J, kG, ge, hoe, na⟩ := mk_end0 (d2 := d2) (t2 := t2) I hsz kk un2 hok2 os2 bare2 ea ed hd1
      exact ⟨rv, hp.objs.size + 1, _, _, ⟨G, g2, d2, t2, os'⟩, _, .ref C, some d, rfl, J, kG, ge, hoe, ⟨rfl, rfl, fun vs hv => by cases hv; rfl⟩, rfl, rfl, na, rfl, bare2, raises_own T.exC T.tyC, q2⟩
    | next => exact False.elim hq'
    | brk => exact False.elim hq'
    | cont => exact False.elim hq'
theorem pmkN_oex {CX : CXT} {x : Str} {C fI : Addr} {k : Nat} {fd : FuncData} {ps : List Str} {sp : Sp} {ds : List Value} {dvs : List V} {e : Expr} {es : List Expr} {ta : TA} {p pos : Pos} (T : OexC X.K C) (iC : PySem.W.findIn X.K (.ref C) "__init__" = some (some (.ref fI))) (tI : PySem.W.typeIn X.K (.ref fI) = some (.type "function"))
    (F1 : FnOk X.prog X.w X.K X.mg X.base CX k fI fd ps sp) (hr : Room (k + 1) X.A) (hb : Binds X.K fd ps ds) (hd : Vals dvs ds) (hx : Passes CX X (fun _ _ _ => False)) (hg : Gl X x) (hm : X.mg x = some (.ref C))
    (hdb : (x == ("__debug__" : Str)) = false) (ha : PA X (e :: es) ta) (he : starEach (e :: es) X.env = (false, eval e X.env) :: starEach es X.env) (hpl : (backTo pos (starEach es X.env)).any (·.1) = false) :
    L2N.PMk X (.Call (.Name x p) (e :: es) [] pos) (tMkO C sp dvs ta) := by
  intro pins s σ H Q I h
  obtain ⟨nm, q, N, bs, bm, sn, sub, ab, col, dd, k0, k1, k2, k3, k5, hC, hbm⟩ := T.cls
  refine wpAny_Call_Name_kw (ld_glob I hg hm ?_ hdb)
  refine PySem.W.callWith_K (h₀ := X.base) I.ok.mod.kin T.kC (thn (ha.run pos pins s σ H _ I h) fun us s1 ⟨vs, H1, I1, r1, hz, q1⟩ => ⟨I1.kIn, ?_⟩) he hpl
  show wpAny _ _ (call (.ref C) us) _ _ _
  obtain ⟨hp, g, dr, tk, os⟩ := s1
  have hsz : hp.objs.size ≤ hp.objs.size + 1 := Nat.le_succ _
  have hn : H1 (hp.objs.size + 1) = none := I1.hok.fresh hsz
  have hq := q1 (hp.objs.size + 1) hn
  have kk : ∀ b o, hp.get? b = some o → ((hp.push (PySem.W.kdv_tup us)).push (PySem.HandSPX.excO C hp.objs.size)).get? b = some o := fun b o e => Heap.get?_push_of_some _ (Heap.get?_push_of_some _ e)
  have hget : ((hp.push (PySem.W.kdv_tup us)).push (PySem.HandSPX.excO C hp.objs.size)).get? (hp.objs.size + 1) = some (PySem.HandSPX.excO C hp.objs.size) := by heap_get
  have I2 : Inv X pins σ (upd H1 (hp.objs.size + 1) (exo (hp.objs.size + 1) C none)) ⟨(hp.push (PySem.W.kdv_tup us)).push (PySem.HandSPX.excO C hp.objs.size), g, dr, tk, os⟩ :=
    I1.laid (t' := tk) (a := hp.objs.size + 1) (o := exo (hp.objs.size + 1) C none) (h' := (hp.push (PySem.W.kdv_tup us)).push (PySem.HandSPX.excO C hp.objs.size)) kk hsz (exo_ok hget)
  have r2 : Vals (V.ref (hp.objs.size + 1) :: (vs ++ dvs)) (Value.ref (hp.objs.size + 1) :: (us ++ ds)) := .cons rfl (r1.append hd)
  have hl : (Value.ref (hp.objs.size + 1) :: us ++ ds).length = ps.length := by
    have e := r2.length
    have e2 := F1.len _ _ _ _ hq
    rw [e2] at e
    exact e.symm
  have hus : us.length ≤ sizeLine := by
    rw [← Paired.length r1, sizeLine_eq]
    omega
  have b2 := hb _ (Value.ref (hp.objs.size + 1) :: us) I2.kIn hl
  refine wpAny_call (PySem.HandSPX.call_own F.excBase_ValueError (fun Y => PySem.HandSPX.refsVE_contains Y bm hbm) (I1.kIn _ _ hC) (PySem.W.looks_findIn I1.kIn iC) (fun self => PySem.W.bind_fn I1.kIn self tI) hus
    (codeAny_mono (F1.run _ X.stack _ _ ⟨Value.ref (hp.objs.size + 1) :: us, []⟩ (Value.ref (hp.objs.size + 1) :: (us ++ ds)) _ _ (fun _ _ _ => False) (hr.make C us []) (I2.env0.make C us []) b2 r2 hq) fun r s' hq' => ?_))
  cases r with
  | error er => exact hx pins σ _ _ er s' I2 hq'
  | ok fl =>
    cases fl with
    | ret u =>
      obtain ⟨v, H2, os2, bare2, un2, hok2, rv, ev, d, fs, ea, ed, hd1, q2⟩ := hq'
      subst ev
      obtain ⟨h2, g2, d2, t2, os'⟩ := s'
      obtain ⟨t0, G, J, kG, ge, hoe, na⟩ := mk_end0 (d2 := d2) (t2 := t2) I1 hsz kk un2 hok2 os2 bare2 ea ed hd1
      exact ⟨rv, hp.objs.size + 1, _, _, ⟨G, g2, d2, t2, os'⟩, _, .ref C, some d, rfl, J, kG, ge, hoe, ⟨rfl, rfl, fun vs hv => by cases hv; rfl⟩, rfl, rfl, na, rfl, bare2, raises_own T.exC T.tyC, q2⟩
    | next => exact False.elim hq'
    | brk => exact False.elim hq'
    | cont => exact False.elim hq'
theorem passes_none {X : Cx} : Passes (L2.CX X.prog X.w) X (fun _ _ _ => False) := fun _ _ _ _ _ _ _ q => by
  obtain ⟨_, _, _, _, _, _, _, _, _, _, _, _, z⟩ := q
  exact z.elim
theorem ext_okY {H : Hp} {a : Addr} {P : Program} {w : World} {h : Heap} {cls : Value} {d : Option Addr} {oe : Obj} {vs : Array Value} (e : h.get? a = some oe) (z : Zc cls d oe) (hd : oe.data = .fields vs) : ObjOk P w (upd H a (ExT cls d a)) h a (ExT cls d a) :=
  ⟨⟨oe, vs, e, z, hd⟩, ⟨oe, e⟩, fun h1 h2 ⟨oe', vs', e', z', hd'⟩ k => ⟨oe', vs', k oe' e', z', hd'⟩⟩
theorem pmk_toC {e : Expr} {t : L2.St → Hp → XK → Prop} (h : L2N.PMk X e t) : PMk X e t := fun pins s σ H Q I q => thn (h pins s σ H Q I q) fun u s' hu => by
  obtain ⟨a, oe, vs, sI, H', cls, d, z1, J, k, hne, ha, hz, r⟩ := hu
  exact ⟨a, oe, vs, sI, H', cls, d, z1, J, k, hne, ha, hz.zc, r⟩
theorem takesN (tk : Takes X W) : L2N.Takes X W := fun u s' ⟨a, B, sI, pins, σ, H, cls, d, e, I, nb, up, sky, r⟩ => by
  refine tk u s' ⟨a, B, sI, pins, σ, H, cls, d, e, I, nb, up, ?_, r⟩
  rcases sky with ⟨h1, h2, h3, oe, vs, h4, hz, h5⟩ | fl | ⟨h1, h2, h3, oe, vs, T, oT, ts, he, hz, h4⟩
  · exact .inl ⟨h1, h2, h3, oe, vs, h4, hz.zc, h5⟩
  · exact .inr (.inl (L2H.flyingZ_imp (fun o z => z.zc) fl))
  · exact .inr (.inr ⟨h1, h2, h3, oe, vs, T, oT, ts, he, hz.zc, h4⟩)
theorem pe_mk {e : Expr} {t : L2.St → Hp → XK → Prop} (h : PMk X e t) : PE X e (fun σ H Q => t σ H fun cls d H' => ∀ a, H' a = none → Q (.ref a) (upd H' a (ExT cls d a))) := by
  refine ⟨fun pins s σ H Q I q => thn (h pins s σ H _ I q) fun u s' hu => ?_⟩
  obtain ⟨a, oe, vs, sI, H', cls, d, rfl, J, k, hne, ha, hz, hd, h1, na, os, ag, r, q⟩ := hu
  have J1 : Inv X pins σ (upd H' a (ExT cls d a)) { sI with heap := s'.heap, toks := 0 } := J.laidN k hne na (ext_okY ha hz hd)
  exact ⟨.ref a, _, ⟨J1.ok, os.trans J.os, ag, J1.base, J1.loc, J1.cell, J1.free, J1.freeC, J1.pin, J1.hok, J1.len⟩, rfl, q a na⟩
theorem made_mk {w1 : Wd} {M1 : Hh} {H1 : Hp} {k : Nat} {d : D} {v : V} {Q : VK} {E : XK} (S1 : Sim c w1 M1 H1) (r : Rep c w1 H1 d v) (T : OexC c.K (c.ca k)) (no : PySem.W.findIn c.K (.ref (c.ca k)) "at" = some none)
    (q : OkG c (Rep c) w1 H1 (.ok (.exc k [d]) M1) Q E) : ∀ a, H1 a = none → spInit c.K [.ref a, v] (upd H1 a (exo a (c.ca k) none))
      (fun u H2 => u = .non ∧ ∃ (dx : Addr) (fs : List (Str × V)), H2 a = some (exo a (c.ca k) (some dx)) ∧ H2 dx = some (exd dx fs) ∧ H1 dx = none ∧ ∀ b, upd (del H2 a) dx (.xd fs) b = none → Q (.ref b) (upd (upd (del H2 a) dx (.xd fs)) b (ExT (.ref (c.ca k)) (some dx) b))) (fun _ _ _ => False) := by
  intro a ha
  refine ⟨a, c.ca k, v, rfl, upd_same, T, no, fun dx hdx hne => ⟨rfl, dx, _, upd_same, by rw [upd_ne hne, upd_same], by rw [upd_ne hne] at hdx; exact hdx, ?_⟩⟩
  rw [upd_ne hne] at hdx
  have eu : upd (del (upd (upd (upd H1 a (exo a (c.ca k) none)) dx (exd dx [("at", v)])) a (exo a (c.ca k) (some dx))) a) dx (.xd [("at", v)]) = upd H1 dx (.xd [("at", v)]) := by
    funext b
    by_cases hb : b = dx
    · subst hb; rw [upd_same, upd_same]
    · rw [upd_ne hb, upd_ne hb]
      by_cases hba : b = a
      · subst hba; rw [del_same, ha]
      · rw [del_ne hba, upd_ne hba, upd_ne hb, upd_ne hba]
  rw [eu]
  intro b hb
  have s : Stp w1 H1 w1 (upd H1 dx (.xd [("at", v)])) := Stp.laid hdx
  have S2 := S1.laid (o := .xd [("at", v)]) hdx
  have s2 : Stp w1 (upd H1 dx (.xd [("at", v)])) w1 (upd (upd H1 dx (.xd [("at", v)])) b (ExT (.ref (c.ca k)) (some dx) b)) := Stp.laid hb
  have nb : dx ≠ b := fun z => by rw [← z, upd_same] at hb; cases hb
  refine q w1 _ _ (s.trans s2) (S2.laid hb) (rep_exc.mpr ⟨b, some dx, rfl, S2.fresh hb, upd_same, ?_⟩)
  simp only [RepX]
  exact ⟨trivial, dx, v, rfl, S1.fresh hdx, by rw [upd_ne nb, upd_same], Rep.mono (s.trans s2) _ _ r⟩
theorem l_exv1 {k : Nat} {df : Nat → Bool} {rk : Nat → Option Bool} {x : Str} {e : Expr} {p pos : Pos} {f : Sl → Hh → Out D} (hK : X.K = c.K) (R : RkOk c rk df X.prog X.w X.mg X.base) (hk : rk k = some true) (hr : Room 2 X.A)
    (hg : Gl X x) (hm : X.mg x = some (.ref (c.ca k))) (hdb : (x == ("__debug__" : Str)) = false) (he : PE X e (tE c W f)) (hs : notStar e = true) : PE X (.Call (.Name x p) [e] [] pos) (tE c W fun σ M => (f σ M).bind fun d M1 => .ok (.exc k [d]) M1) := by
  obtain ⟨T, no, fI, fd, iC, tI, F1, _, hb, _⟩ := R.ow k hk
  have ha := pa_cons he pa_nil (star_eq hs)
  have T' := T
  rw [← hK] at T' iC tI F1 hb
  refine (pe_mk (pmk_oex (dvs := []) T' iC tI F1 hr hb .nil passes_none hg hm ha hdb (star_eq hs) rfl)).weak fun τ H Q ⟨w, M, σ, S, RS, q⟩ => ?_
  refine (nxt S RS q).imp fun v H1 ⟨w1, M1, d, s1, S1, RS1, r1, q1⟩ => ?_
  refine ⟨by simp, fun a ha => ?_⟩
  rw [hK]
  exact made_mk S1 r1 T no q1 a ha
theorem l_exvD {k : Nat} {df : Nat → Bool} {rk : Nat → Option Bool} {x : Str} {p pos : Pos} (hK : X.K = c.K) (R : RkOk c rk df X.prog X.w X.mg X.base) (hk : rk k = some true) (hd : df k = true) (hr : Room 2 X.A)
    (hg : Gl X x) (hm : X.mg x = some (.ref (c.ca k))) (hdb : (x == ("__debug__" : Str)) = false) : PE X (.Call (.Name x p) [] [] pos) (tE c W fun _ M => .ok (.exc k [.non]) M) := by
  obtain ⟨T, no, fI, fd, iC, tI, F1, _, _, hb⟩ := R.ow k hk
  replace hb := hb hd
  have T' := T
  rw [← hK] at T' iC tI F1 hb
  refine (pe_mk (pmk_toC (pmk_oex0 (dvs := [.non]) T' iC tI F1 hr hb (.cons rfl .nil) passes_none hg hm hdb))).weak fun τ H Q ⟨w, M, σ, S, RS, q⟩ => ?_
  refine (show [].length ≤ 1000 ∧ _ from ⟨by simp, fun a ha => ?_⟩)
  rw [hK]
  exact made_mk S (rep_non.mpr rfl) T no q a ha
theorem pps_of {N : Nat} {pos : Pos} : ∀ {keys : List (Option Expr)} {values : List Expr} {ks : List V} {fs : List (Sl → Hh → Out D)}, keys.length = values.length → Paired (fun k v => ∃ e, k = some e ∧ PE X e (tC v)) keys ks → Paired (fun e f => PE X e (tE c W f)) values fs →
    PPs X pos keys values ((ks.zip fs).map fun p => (tC p.1, tE c W p.2))
  | [], [], _, _, _, .nil, .nil => pps_nil
  | [], _ :: _, _, _, h, _, _ => by simp at h
  | _ :: _, [], _, _, h, _, _ => by simp at h
  | k :: keys, v :: values, _, _, h, .cons h1 t1, .cons h2 t2 => by
    obtain ⟨e, rfl, h1⟩ := h1
    rw [List.zip_cons_cons, List.map_cons]
    exact pps_cons h1 h2 (pps_of (N := N) (by simpa using h) t1 t2)
def evs : List (Sl → Hh → Out D) → Sl → Hh → Out (List D)
  | [], _, M => .ok [] M
  | f :: fs, σ, M => (f σ M).bind fun x M1 => (evs fs σ M1).bind fun xs M2 => .ok (x :: xs) M2
theorem tPairs_of {τ : L2.St} {σ : Sl} : ∀ {ks : List V} {fs : List (Sl → Hh → Out D)} {w : Wd} {M : Hh} {H : Hp} {g : List D → Hh → Out D} {Q : VK} {R : List (V × V) → Hp → Prop}, ks.length = fs.length → Sim c w M H → RepS c w H σ τ → OkG c (Rep c) w H ((evs fs σ M).bind g) Q (fun cls d H' => W cls d τ H') →
    (∀ es vs w' M' H', Stp w H w' H' → Sim c w' M' H' → RepL c w' H' es vs → es.length = fs.length → OkG c (Rep c) w' H' (g es M') Q (fun cls d H' => W cls d τ H') → R (ks.zip vs) H') → tPairs ((ks.zip fs).map fun p => (tC p.1, tE c W p.2)) τ H R
  | [], [], w, M, H, g, Q, R, _, S, RS, h, k => by
    simp only [evs, Out.bind_ok] at h
    exact k [] [] w M H Stp.refl S RepL.nil rfl h
  | [], _ :: _, _, _, _, _, _, _, hl, _, _, _, _ => by simp at hl
  | _ :: _, [], _, _, _, _, _, _, hl, _, _, _, _ => by simp at hl
  | y :: ks, f :: fs, w, M, H, g, Q, R, hl, S, RS, h, k => by
    simp only [evs, bind_assoc, Out.bind_ok] at h
    rw [List.zip_cons_cons, List.map_cons]
    show tC y τ H fun kv H1 => tE c W f τ H1 fun vv H2 => tPairs _ τ H2 fun ps H3 => R ((kv, vv) :: ps) H3
    refine (nxt S RS h).imp fun v H1 ⟨w1, M1, d, s1, S1, RS1, r1, q1⟩ => ?_
    refine tPairs_of (by simpa using hl) S1 RS1 q1 fun es vs w' M' H' s' S' rr hlen q => ?_
    exact k (d :: es) (v :: vs) w' M' H' (s1.trans s') S' (RepL.cons (Rep.mono s' _ _ r1) rr) (by simp [hlen]) q
theorem keysV : ∀ {ks : List D} {vl : List V} {w : Wd} {H : Hp}, RepL c w H ks vl → (∀ d ∈ ks, key1 d = true) → ∃ kl : List Key, ks = kl.map kD ∧ vl = kl.map kV
  | [], vl, w, H, r, _ => by
    simp only [RepL] at r
    subst r
    exact ⟨[], rfl, rfl⟩
  | d :: ks, vl, w, H, r, h => by
    obtain ⟨v, q, rfl, r1, r2⟩ := r.uncons
    obtain ⟨kl, rfl, rfl⟩ := keysV r2 fun d hd => h d (List.mem_cons_of_mem _ hd)
    obtain ⟨k, rfl, rfl⟩ := key1_ok (h d List.mem_cons_self) r1
    exact ⟨k :: kl, rfl, rfl⟩
theorem l_disp2 {pos : Pos} {keys : List (Option Expr)} {values : List Expr} {ks : List D} {vl : List V} {fs : List (Sl → Hh → Out D)} (hk : Paired (fun k v => ∃ e, k = some e ∧ PE X e (tC v)) keys vl) (hr : ∀ w H, RepL c w H ks vl) (hkey : ∀ d ∈ ks, key1 d = true)
    (hv : Paired (fun e f => PE X e (tE c W f)) values fs) (hlen : keys.length = values.length) (h0 : keys ≠ []) (h15 : keys.length ≤ 15) : PE X (.Dict keys values pos) (tE c W fun σ M => (evs fs σ (M ++ [.dic .one [] []])).bind fun es M1 => dispD M.length ks es M1) := by
  have hall : keys.all (·.isSome) = true := by
    clear hlen h0 h15 hr
    induction hk with
    | nil => rfl
    | cons h t ih =>
      obtain ⟨e, rfl, _⟩ := h
      rw [List.all_cons, ih]
      rfl
  have lv : vl.length = fs.length := by rw [← hk.length, ← hv.length, hlen]
  refine (pe_disp (pps_of (N := 0) hlen hk hv) hall hlen h0 h15).weak fun τ H Q ⟨w, M, σ, S, RS, q⟩ p hp => ?_
  have s : Stp w H (w.push p) (upd H p (.dK [])) := Stp.push hp
  have S1 : Sim c (w.push p) (M ++ [.dic .one [] []]) (upd H p (.dK [])) := S.push hp ⟨rfl, Nat.zero_le _, [], upd_same, List.nodup_nil, rfl, RepL.nil, RepL.nil⟩
  have ip : (w.push p).ι[M.length]? = some p := by
    show (w.ι ++ [p])[M.length]? = some p
    rw [← S.len]
    exact List.getElem?_concat_length
  refine tPairs_of lv S1 (RS.mono s) (OkG.lift q s) fun es vs w' M' H' s' S' rr hl q' => ?_
  unfold dispD at q'
  split at q'
  · rename_i hM
    split at q'
    · rename_i hle
      have ip' := s'.ix ip
      obtain ⟨l, z, kvs, e, nd, e2, rk, rv⟩ := S'.cell _ p _ ip' hM
      have : kvs = [] := by
        cases kvs with
        | nil => rfl
        | cons _ _ => simp at e2
      subst this
      obtain ⟨kl, rfl, rfl⟩ := keysV (hr w' H') hkey
      have hvl : kl.length = vs.length := by
        have := rr.len
        rw [List.length_map] at hle
        omega
      have k1 : (kl.zip vs).map (·.1) = kl := by rw [List.map_fst_zip (by omega)]
      have k2 : (kl.zip vs).map (·.2) = vs := by rw [List.map_snd_zip (by omega)]
      have k3 : (kl.zip vs).map (fun p => kD p.1) = kl.map kD := by
        conv => rhs; rw [← k1]
        rw [List.map_map]
        rfl
      have k4 : (kl.map kV).zip vs = (kl.zip vs).map (fun kv => (kV kv.1, kv.2)) := by
        rw [List.zip_map_left]
        rfl
      refine ⟨e, kl.zip vs, k4, ?_, ?_⟩
      · rw [List.length_zip]
        have := hk.length
        rw [List.length_map] at this
        have := Nat.min_le_left kl.length vs.length
        omega
      · obtain ⟨m1, m2, m3, m4⟩ := merge_ok (c := c) (w := w') (H := H') (kl.zip vs) es (by rw [k2]; exact rr) [] [] List.nodup_nil RepL.nil
        simp only [List.map_nil, k3] at m1 m2
        have s2 : Stp w' H' w' (upd H' p (.dK (mergeK [] (kl.zip vs)))) := Stp.write ip' (nf e trivial)
        have ll : (mergeK [] (kl.zip vs)).length ≤ 15 := by
          have := length_mergeK (kl.zip vs) []
          have := hk.length
          rw [List.length_map] at this
          rw [List.length_zip] at *
          have := Nat.min_le_left kl.length vs.length
          simp only [List.length_nil] at *
          omega
        refine q' w' _ _ s2 (S'.write ip' ⟨?_, ?_, mergeK [] (kl.zip vs), upd_same, m3, m1, ?_, RepL.mono s2 _ _ m2⟩) (rep_ref.mpr ⟨p, rfl, ip'⟩)
        · rw [m1, m2.len]; simp
        · rw [m1, List.length_map, sizeLine_eq]; omega
        · rw [m1]
          refine RepL.mono s2 _ _ (keys_rep fun x hx => ?_)
          rcases m4 x hx with z | z
          · cases z
          · rw [k1] at z
            have : ∀ (l : List Key), x ∈ l → RepL c w' H' (l.map kD) (l.map kV) → Rep c w' H' (kD x) (kV x) := by
              intro l
              induction l with
              | nil => intro hm _; cases hm
              | cons y l ih =>
                intro hm rr
                obtain ⟨_, _, e3, g1, g2⟩ := rr.uncons
                simp only [List.map_cons, List.cons.injEq] at e3
                obtain ⟨e3, e4⟩ := e3
                subst e3 e4
                rcases List.mem_cons.mp hm with z | z
                · subst z; exact g1
                · exact ih z g2
            exact this kl z (hr w' H')
    · exact q'.elim
  · exact q'.elim
end
section
variable {c : Ct} {X : Cx}
theorem st3_eq (l t : List Nat) {i : Int} (h : 0 ≤ i) : Txt.startswith3 ⟨l.toArray⟩ ⟨t.toArray⟩ i = st3 l t i.toNat := by
  unfold Txt.startswith3 st3 Builtin.Str.subAt
  have hi : PySem.fromIndex (⟨l.toArray⟩ : Str).length i = i.toNat := by
    unfold PySem.fromIndex
    rw [if_neg (by omega), Int.max_eq_right h]
  rw [hi]
  simp only [Str.length, List.size_toArray]
  congr 1
  rw [Bool.eq_iff_iff, beq_iff_eq, beq_iff_eq]
  constructor
  · intro q
    have := congrArg Array.toList q
    simpa [List.drop_take] using this
  · intro q
    apply Array.toList_inj.mp
    simpa [List.drop_take] using q
theorem m_starts3 : MtR X "str.startswith" (rVm c starts3D) := by
  intro pins s σ H x xs v us Q I rx r h
  obtain ⟨w, M, d, ds, E, S, r1, r2, h⟩ := h
  unfold starts3D at h
  split at h
  · rename_i l t i
    split at h
    · rename_i hi
      obtain ⟨v1, v2, rfl, g1, g2⟩ := rep2 r2
      rw [rep_str] at r1 g1
      rw [rep_int] at g2
      obtain ⟨rfl, _⟩ := r1
      obtain ⟨rfl, _⟩ := g1
      subst g2
      exact mt_startswith3 pins s σ H _ _ v us Q I rx r ⟨_, _, i, rfl, rfl, by rw [st3_eq l t hi]; exact h.ret S (rep_bl.mpr rfl)⟩
    · exact h.elim
  · exact h.elim
end
end Fw
namespace Fw
open PySem PySem.Spec PyProof.Rows L2
section
variable {c : Ct} {W : WX} {X : Cx}
def tTupF (t : TA) : TE := fun σ H Q => t σ H fun xs H1 => xs.length ≤ sizeLine ∧ ∀ p o, H1 p = none → o.dict = none → Q (.ref p) (upd H1 p (.frz o (.tup xs)))
theorem pe_tupF {es : List Expr} {x1 : Nat} {pos : Pos} {t : TA} (h : PA X es t) : PE X (.Tuple es x1 pos) (tTupF t) := by
  refine ⟨fun pins s σ H Q I hq => ?_⟩
  refine wpAny_Tuple_spliced (thn (h.run pos pins s σ H _ I hq) fun us s1 ⟨xs, H1, I1, r, z, q⟩ => ⟨by rw [← r.length]; exact z, ?_⟩)
  have hf : H1 s1.heap.objs.size = none := I1.hok.fresh (Nat.le_refl _)
  refine ⟨.ref s1.heap.objs.size, upd H1 s1.heap.objs.size (.frz { cls := .type "tuple", data := .seq us.toArray } (.tup xs)), I1.laid (t' := s1.toks) (fun b u e => Heap.get?_push_of_some _ e) (Nat.le_refl _) ?_, rfl, q _ _ hf rfl⟩
  exact ⟨Heap.get?_push_size _ rfl, z, us, r, ⟨_, Heap.get?_push_size _ rfl, rfl, _, rfl⟩⟩
theorem ints_all : ∀ {ds : List D}, ds.all isIntD = true → ∃ ns : List Int, ds = ns.map D.int
  | [], _ => ⟨[], rfl⟩
  | d :: ds, h => by
    rw [List.all_cons, Bool.and_eq_true] at h
    obtain ⟨ns, rfl⟩ := ints_all h.2
    cases d with
    | int i => exact ⟨i :: ns, rfl⟩
    | _ => exact absurd h.1 (by simp [isIntD])
theorem ints_of_rep {w : Wd} {H : Hp} : ∀ {ns : List Int} {vs : List V}, RepL c w H (ns.map D.int) vs → vs = ns.map V.int
  | [], vs, r => by simpa [RepL] using r
  | n :: ns, vs, r => by
    obtain ⟨v, q, rfl, r1, r2⟩ := r.uncons
    rw [rep_int] at r1
    rw [r1, ints_of_rep r2]
    rfl
theorem l_tupC {es : List Expr} {k : Nat} {pos : Pos} {g : Sl → Hh → Out (List D)} (h : PA X es (tL c W g)) (hz : ∀ σ M ds M', g σ M = .ok ds M' → ds.length ≤ sizeLine) :
    PE X (.Tuple es k pos) (tE c W fun σ M => (g σ M).bind fun ds M1 => if ds.all isIntD = true then .ok (.dic [] ds) M1 else .bad) :=
  (pe_tupF h).weak fun τ H Q ⟨w, M, σ, S, RS, h⟩ => by
    have z := hz σ M
    refine ⟨w, M, σ, S, RS, ?_⟩
    dsimp only at h
    cases e : g σ M with
    | bad => rw [e] at h; exact h
    | exn x fs M' => rw [e] at h; exact h
    | ok ds M' =>
      rw [e] at h
      simp only [Out.bind_ok] at h
      intro w1 H1 vs s S1 r
      by_cases hi : ds.all isIntD = true
      · rw [if_pos hi] at h
        obtain ⟨ns, rfl⟩ := ints_all hi
        have ev := ints_of_rep r
        subst ev
        refine ⟨by rw [← r.len]; exact z _ _ e, fun p o hp ho => ?_⟩
        have s2 : Stp w1 H1 w1 (upd H1 p (.frz o (.tup (ns.map V.int)))) := Stp.laid hp
        exact h w1 _ _ (s.trans s2) (S1.laid hp) (rep_dic.mpr ⟨rfl, p, o, ns, rfl, S1.fresh hp, upd_same, ho, rfl⟩)
      · rw [if_neg hi] at h; exact h.elim
theorem m_tindex (hK : X.K = c.K) : MtR X "tuple.index" (rVm c tindexD) := by
  intro pins s σ H x xs v us Q I rx r h
  obtain ⟨w, M, d, ds, E, S, r1, r2, h⟩ := h
  unfold tindexD at h
  split at h
  · rename_i zs y e0
    split at h
    · rename_i ns en
      split at h
      · rename_i hm
        obtain ⟨a, o, ms, rfl, _, e3, _, rfl⟩ := tupcOf_ok e0 r1
        have e4 : ns = ms := by
          have := intsOf_eq en
          have inj : ∀ (as bs : List Int), as.map D.int = bs.map D.int → as = bs := by
            intro as
            induction as with
            | nil => intro bs h; cases bs with | nil => rfl | cons _ _ => cases h
            | cons a as ih =>
              intro bs h
              cases bs with
              | nil => cases h
              | cons b bs =>
                simp only [List.map_cons, List.cons.injEq, D.int.injEq] at h
                rw [h.1, ih bs h.2]
          exact (inj _ _ this).symm
        subst e4
        obtain ⟨v', rfl, r3⟩ := rep1 r2
        rw [rep_int] at r3
        subst r3
        obtain ⟨its, rv, p, hz⟩ := I.tuple (a := a) (xs := ns.map V.int) (.inl (.inr ⟨o, e3⟩))
        cases rx
        cases r with
        | cons ry rt =>
          cases rt
          obtain ⟨t, rfl⟩ := ry
          exact PySem.SeqAt.tuple_index_ints (show s.heap.IsTuple a its.toArray from p) rv.ints hm ⟨.int (ns.idxOf y : Nat), H, I.tok _, ⟨_, rfl⟩, h.ret S (rep_int.mpr rfl)⟩
      · exact h.elim
    · exact h.elim
  · exact h.elim
theorem op_idxL (hK : X.K = c.K) (hu : X.A.units + 65 < cLine) : IxR X (rV2 c idxLD) := by
  intro value slice pins s σ H x y v u Q I rx ry h hs
  obtain ⟨w, M, d, e, E, S, r1, r2, h⟩ := h
  unfold idxLD at h
  split at h
  · rename_i k
    split at h
    · rename_i ks vs hM
      split at h
      · rename_i hk
        split at h
        · rename_i dv hl
          obtain ⟨a, rfl, hi⟩ := rep_ref.mp r1
          obtain ⟨l1, l2, o, kvs, hd, nd, rfl, rk, rv⟩ := S.cell k a _ hi hM
          obtain ⟨kk, rfl, rfl⟩ := key1_ok hk r2
          have lo := look_ok eqD_kD kk rv
          rw [hl] at lo
          obtain ⟨z, lz, rz⟩ := lo
          have g : DG X.K H a (kV kk) (some z) := .inl (.inl ⟨kvs, kk, .inr ⟨o, hd⟩, rfl, lz.symm⟩)
          cases (show v = Value.ref a from rx)
          exact tail_any (g_typeIs I g) PySem.F.slot_dict_getitem.lookup (g_getItem (by omega) I g ry fun w' s3 I3 rw' => ⟨z, H, I3, rw', h.ret S rz⟩) hs
        · exact h.elim
      · exact h.elim
    · exact h.elim
  · exact h.elim
end
end Fw
namespace Fw
open PySem PySem.Spec PyProof.Rows L2
section
variable {M : Model} {A : Around} {E : Value → Shared → Prop} {s : Shared} {base : Heap} {l : List Env} {e L : Addr} {Z : Obj → Prop}
theorem passOn_held {α : Type} {what : String} {cenv : Env} {Q : α → Shared → Prop} (hf : cenv.frame = some L) (hh : HandSPX.HeldZ base l e Z L s.heap)
    (hE : ∀ h', HandSPX.HeldZ base l e Z L h' → s.heap.UpToSlots h' → E (.ref e) { s with heap := h' }) : wpAny M A (PySem.passOn what (.ref e) cenv : Sem α) Q E s := by
  obtain ⟨hkb, hen, hl, oe, vs, T, oT, ts, he, hz, hd, h1, hnT, hTe, hT, hdT, h3⟩ := hh
  have hsz3 : 3 < ts.size := (Array.getElem?_eq_some_iff.mp h3).1
  have other : ∀ b, b ≠ T → (s.heap.update T (Obj.mapFields (·.setIfInBounds 3 ((some L : Option Addr).elim Value.none fun f => rawInt f)))).get? b = s.heap.get? b :=
    fun b hb => Heap.get?_update_other _ _ (Ne.symm hb)
  have noRecord : ∀ b o, s.heap.get? b = some o → (∀ vs, o.data ≠ .fields vs) → b ≠ T := fun b o hb hnf q => by
    rw [q, hT] at hb; injection hb with hb; subst hb; exact hnf ts hdT
  unfold PySem.passOn
  refine wpAny_bind (wpAny_field he hd h1 ?_)
  rw [if_neg (show ¬ ((Value.ref T == Value.none) = true) from by simp)]
  rw [hf]
  refine wpAny_bind ?_
  unfold setFlight
  refine wpAny_bind (wpAny_field he hd h1 ?_)
  rw [if_pos (show (Value.ref T != Value.none) = true from by simp)]
  refine wpAny_setField hT hdT hsz3 (wpAny_throw (hE _ ⟨fun b o hbo => (other b fun q => by rw [q, hnT] at hbo; cases hbo).trans (hkb b o hbo), hen,
    hl.of_keeps fun b o hb hnf => ⟨o, (other b (noRecord b o hb hnf)).trans hb, rfl⟩, ?_⟩ fun b o hb hnf => ⟨o.slots, (other b (noRecord b o hb hnf)).trans hb⟩))
  exact ⟨oe, vs, T, _, _, (other e (Ne.symm hTe)).trans he, hz, hd, h1, hnT, hTe, Heap.get?_update_self _ hT (Obj.isFreed_of_fields (Obj.data_mapFields hdT _)), Obj.data_mapFields hdT _, by simp [hsz3]⟩
end
section
variable {X : Cx} {pins : List (Addr × Obj)} {σ : L2.St} {H : Hp} {s s' : Shared} {E : XK}
theorem call_air (I : Inv X pins σ H s) {u : Value} (c : CX X.prog X.w X.stack H s E u s') : ∃ (a : Addr) (B : Heap) (sI : Shared) (H' : Hp) (cls : Value) (d : Option Addr),
    u = .ref a ∧ Inv X pins σ H' sI ∧ (∀ b o, sI.heap.get? b = some o → b ∉ frs X.stack → B.get? b = some o) ∧ sI.heap.UpToSlots s'.heap ∧
      HandSPX.FlyingZ B X.stack a (Zc cls d) s'.heap ∧ H' a = none ∧ s'.os = sI.os ∧ AllBare s'.gens ∧ E cls d H' := by
  obtain ⟨a, B, H', cls, d, rfl, fl, hok, ub, na, os, ag, hE⟩ := c
  obtain ⟨G, g1, g2⟩ := restrict s'.heap fun b => (B.get? b).isSome || decide (b ∈ frs X.stack)
  have st : B.StaysIn s'.heap := fl.1
  have gB : ∀ b o, B.get? b = some o → G.get? b = some o := fun b o e => by
    rw [g1 b (by simp [e])]
    exact st b o e
  have gF : ∀ b, b ∈ frs X.stack → G.get? b = s'.heap.get? b := fun b hb => g1 b (by simp [hb])
  have og : ∀ b o, G.get? b = some o → s'.heap.get? b = some o ∧ ((B.get? b).isSome = true ∨ b ∈ frs X.stack) := fun b o e => by
    cases q : ((B.get? b).isSome || decide (b ∈ frs X.stack)) with
    | false => rw [g2 b q] at e; cases e
    | true =>
      rw [g1 b q] at e
      exact ⟨e, by simpa [Bool.or_eq_true] using q⟩
  refine ⟨a, B, { s with heap := G, gens := s'.gens, drawn := s'.drawn, toks := s'.toks }, H', cls, d, rfl, ?_, fun b o e hb => ?_, Heap.UpToSlots.of_keeps fun b o e => (og b o e).1, fl, na, os, ag, hE⟩
  · refine I.call (ch := []) ⟨fun b o e n hb _ => gB b o (ub.keep b o e n hb), fun b o e n hb _ => ?_, fun b o e n _ => ub.free b o e n, fun b o e _ => ?_, ub.tups, ub.frzs, ub.tbls⟩ (hok.kept gB) ag (fun _ z => nomatch z)
    · obtain ⟨sl, q⟩ := ub.slot b o e hb
      exact ⟨sl, by rw [gF b hb]; exact q⟩
    · by_cases hb : b ∈ frs X.stack
      · obtain ⟨sl, q⟩ := ub.slot b o e hb
        exact ⟨_, by rw [gF b hb]; exact q⟩
      · obtain ⟨o', q⟩ := ub.there b o e hb
        exact ⟨o', gB b o' q⟩
  · obtain ⟨e', h⟩ := og b o e
    rcases h with h | h
    · obtain ⟨o', q⟩ := Option.isSome_iff_exists.mp h
      have z := st b o' q
      rw [e'] at z; cases z
      exact q
    · exact absurd h hb
theorem comp_out {W : WX} (tk : Takes X W) (hs : X.stack = X.env :: X.outer) (hf : X.env.frame = some X.env.locals) {scope : Scope} {cl : List (Str × Addr)} {fp : List Addr} {s3 s5 : Shared} {H3 H5 : Hp} {pins5 : List (Addr × Obj)} {τ : L2.St}
    (I3 : Inv X pins σ H3 s3) (f3 : ∀ b ∈ fp, FpOk X pins H3 b) (I5 : Inv (X.blk s3 H3 scope (compEnvC scope cl s3.heap.objs.size X.env) fp) pins5 τ H5 s5) {u : Value}
    (c : CX X.prog X.w X.stack H5 s5 (fun cls d H' => W cls d σ H') u s') :
    notedBy (model X.prog X.w) X.A (compEnvC scope cl s3.heap.objs.size X.env) (CompFails (model X.prog X.w) X.A X.xe (compEnvC scope cl s3.heap.objs.size X.env)) u s' := by
  obtain ⟨a, B, sI, H', cls, d, rfl, II, nb, up, fl, na, os, ag, w⟩ := call_air (X := X.blk s3 H3 scope (compEnvC scope cl s3.heap.objs.size X.env) fp) I5 c
  have nb : ∀ b o, sI.heap.get? b = some o → b ∉ frs X.stack → B.get? b = some o := nb
  have fl : HandSPX.FlyingZ B X.stack a (Zc cls d) s'.heap := fl
  have hfr : X.A.frames = some (X.env :: X.outer) := by rw [I3.ok.frames, hs]
  obtain ⟨m, hn, _⟩ := II.loc
  have hn : sI.heap.Ns s3.heap.objs.size m := hn
  have hCs : s3.heap.objs.size ∉ frs X.stack := fun hm => by
    obtain ⟨_, o, e, _⟩ := I3.stack.mem hm
    exact absurd (Heap.lt_size e) (Nat.lt_irrefl _)
  have hC' : H' s3.heap.objs.size = none := II.free
  have fC : FpOk X pins H' s3.heap.objs.size := I3.fpOk (Nat.le_refl _) hC'
  show wpAny _ _ (noteFrame (.ref a) (compEnvC scope cl s3.heap.objs.size X.env)) _ _ s'
  rw [noteFrame_env (.ref a) (cenv := compEnvC scope cl s3.heap.objs.size X.env) (env := X.env) rfl]
  rw [hs] at fl
  refine HandSPX.looks_onZ Zc.steady hfr hf fl fun h' held up1 => ?_
  obtain ⟨oL, es, ep, hoL, hdL, r⟩ := hn
  have hoC : h'.get? s3.heap.objs.size = some oL := held.1 _ _ (nb _ _ hoL hCs)
  refine ⟨m, ⟨oL, es, ep, hoC, hdL, r⟩, fun h2 m2 hn2 hs2 => ?_⟩
  have hn2 : h2.Ns s3.heap.objs.size m2 := hn2
  have hs2 : Heap.SameBut s3.heap.objs.size h' h2 := hs2
  obtain ⟨k1, k2, k3, oe, vs, T, oT, ts, he, hz, hd, h1, hnT, hTe, hT, hdT, h3⟩ := held
  have aC : a ≠ s3.heap.objs.size := fun z => by
    rw [z, hoC] at he; cases he; rw [hdL] at hd; cases hd
  have TC : T ≠ s3.heap.objs.size := fun z => by
    rw [z, hoC] at hT; cases hT; rw [hdL] at hdT; cases hdT
  have hid : ∀ b o, (PySem.W.hideAll B [s3.heap.objs.size]).get? b = some o → B.get? b = some o ∧ b ≠ s3.heap.objs.size := fun b o e =>
    ⟨PySem.W.of_hideAll _ e, fun z => by rw [z, PySem.W.hideAll_none _ (List.mem_singleton.mpr rfl)] at e; cases e⟩
  have hidn : ∀ b, B.get? b = none → (PySem.W.hideAll B [s3.heap.objs.size]).get? b = none := fun b e => by
    cases q : (PySem.W.hideAll B [s3.heap.objs.size]).get? b with
    | none => rfl
    | some o => rw [(hid b o q).1] at e; cases e
  have ff : h2.FunFrames B (X.env :: X.outer) := Heap.FunFrames.sameBut hs2 hn2 k3
  have held2 : HandSPX.HeldZ (PySem.W.hideAll B [s3.heap.objs.size]) (X.env :: X.outer) a (Zc cls d) X.env.locals h2 := by
    refine ⟨fun b o e => ?_, hidn a k2, funFrames_none ff fun b hb => ?_, oe, vs, T, oT, ts, (hs2.2 a aC).trans he, hz, hd, h1, hidn T hnT, hTe, (hs2.2 T TC).trans hT, hdT, h3⟩
    · obtain ⟨e1, e2⟩ := hid b o e
      exact (hs2.2 b e2).trans (k1 b o e1)
    · exact hidn b (ff.mem hb).1
  refine passOn_held (s := { s' with heap := h2 }) hf held2 fun h3' held3 up3 => ?_
  have J : Inv X pins σ H' sI := I3.call' (ch := fp) II.os II.base II.hok II.bare fun b hb => ⟨(f3 b hb).2.2.2.1, (f3 b hb).2.1, (f3 b hb).2.2.2.2.1, (f3 b hb).2.2.2.2.2⟩
  have J2 : Inv X pins σ H' { sI with heap := PySem.W.hideAll sI.heap [s3.heap.objs.size], toks := sI.toks } := J.turned (it := s3.heap.objs.size) (fun b o hb e => PySem.W.hideAll_get _ e (fun z => hb (List.mem_singleton.mp z))) fC.1 (fun z => fC.2.1 z) fC.2.2.2.1 fC.2.2.2.2.1 fC.2.2.2.2.2
  have hidI : ∀ b o, (PySem.W.hideAll sI.heap [s3.heap.objs.size]).get? b = some o → sI.heap.get? b = some o ∧ b ≠ s3.heap.objs.size := fun b o e =>
    ⟨PySem.W.of_hideAll _ e, fun z => by rw [z, PySem.W.hideAll_none _ (List.mem_singleton.mpr rfl)] at e; cases e⟩
  refine tk _ _ ⟨a, PySem.W.hideAll B [s3.heap.objs.size], _, pins, σ, H', cls, d, rfl, J2, fun b o e hb => ?_, fun b o e hnf => ?_, ?_, na, os, ag, w⟩
  · obtain ⟨e1, e2⟩ := hidI b o e
    exact PySem.W.hideAll_get _ (nb b o e1 hb) fun z => e2 (List.mem_singleton.mp z)
  · obtain ⟨e1, e2⟩ := hidI b o e
    obtain ⟨sl1, q1⟩ := up b o e1 hnf
    obtain ⟨sl2, q2⟩ := up1 b _ q1 hnf
    obtain ⟨sl3, q3⟩ := up3 b _ ((hs2.2 b e2).trans q2) hnf
    exact ⟨sl3, q3⟩
  · rw [hs]
    exact .inr (.inr held3)
end
noncomputable def compXE (m : Bool) (tg : List Nat) (k : ItK) (g0 : Sl → Hh → Out (List D)) (ef : Sl → Hh → Out D) : Sl → Hh → Out D := fun σ M =>
  (g0 σ M).bind fun vs M1 => match itsD k vs M1 with
    | some (xs, g) => if line < xs.length then .bad else (endX g (compL (fun d => bindTg tg d σ) (fun _ M => .ok (.bl true) M) ef g xs [] M1)).bind fun ys M2 => mkL m ys M2
    | none => .bad
theorem comp_ofX {c : Ct} {W : WX} {m : Bool} {tg : List Nat} {k : ItK} {g0 : Sl → Hh → Out (List D)} {ef : Sl → Hh → Out D} {τ : L2.St} {H : Hp} {Q : VK}
    (h : tE c W (compXE m tg k g0 ef) τ H Q) : tLc (tI c W k g0) (tG c tg) tYes (tE c (fun cls d _ H' => W cls d τ H') ef) tg τ H Q := by
  obtain ⟨w, M, σ, S, RS, h⟩ := h
  refine ⟨w, M, σ, S, RS, ?_⟩
  unfold compXE at h
  cases e0 : g0 σ M with
  | bad => rw [e0] at h; exact h
  | exn x fs M' => rw [e0] at h; exact h
  | ok vs M1 =>
    rw [e0] at h
    simp only [Out.bind_ok] at h
    show (match itsD k vs M1 with | some (xs, g) => _ | none => False)
    cases e1 : itsD k vs M1 with
    | none => rw [e1] at h; exact h
    | some p =>
      obtain ⟨xs, g⟩ := p
      rw [e1] at h
      simp only at h
      by_cases hz : line < xs.length
      · rw [if_pos hz] at h; exact h.elim
      rw [if_neg hz] at h
      intro w1 H1 J s1 S1 wk D hD
      replace h := OkG.lift h s1
      have RS1 := RS.mono s1
      generalize hr : compL (fun d => bindTg tg d σ) (fun _ M => .ok (.bl true) M) ef g xs [] M1 = r at h
      let Wi : Nat → Nat → Hp → Prop := fun i n H2 => n = xs.length - i ∧ i ≤ xs.length ∧ ∃ w2 M2 acc us, Stp w1 H1 w2 H2 ∧ Sim c (w2.away D) M2 H2 ∧ H2 D = some (.lst us) ∧ RepL c (w2.away D) H2 acc us ∧ acc.length ≤ i ∧
        compL (fun d => bindTg tg d σ) (fun _ M => .ok (.bl true) M) ef g (xs.drop i) acc M2 = r
      refine ⟨Wi, ⟨xs.length, by simp, Nat.zero_le _, w1, M1, [], [], Stp.laid hD, S1.put hD trivial, upd_same, RepL.nil, Nat.le_refl _, by simpa using hr⟩, ?_⟩
      rintro i n H2 ⟨rfl, hi, w2, M2, acc, us, s2, S2, eD, ra, hal, hc⟩
      have gr2 : Gr w1 H1 (w2.away D) H2 := s2.gr.away hD
      by_cases hlt : i < xs.length
      · right
        have ed : xs.drop i = xs[i] :: xs.drop (i + 1) := List.drop_eq_getElem_cons hlt
        generalize hx : xs[i] = x at ed
        have ex : xs[i]? = some x := by rw [List.getElem?_eq_getElem hlt, hx]
        rw [ed] at hc
        unfold compL at hc
        split at hc
        · rename_i hgd
          split at hc
          · subst hc; exact h.elim
          · rename_i σ2 hb
            simp only [Out.bind_ok, ifB] at hc
            obtain ⟨go, yl⟩ := wk.go _ _ _ gr2 S2 hgd i x ex
            refine ⟨go, fun H' => Wi (i + 1) (xs.length - (i + 1)) H', fun H' p => ⟨_, by omega, p⟩, fun v H3 y => ?_⟩
            obtain ⟨s3, S3, rv⟩ := yl v H3 y
            refine ⟨w2.away D, x, σ, σ2, ((RS1.gr gr2).mono s3).wiped tg, rv, hb, fun τ2 RS2 hl ho => ⟨wipe_same hl ho, ?_⟩⟩
            obtain ⟨s34, e34⟩ := s3.un
            have hD3 : H3 D = some (.lst us) := s3.keep D _ eD (S2.av D (.inr rfl)).1
            unfold tYes
            simp only [if_true]
            refine ⟨_, M2, σ2, S3, RS2, ?_⟩
            have av3 := (S3.av D (by rw [e34]; exact .inr rfl)).1
            cases ee : ef σ2 M2 with
            | bad => rw [ee] at hc; subst hc; exact h.elim
            | exn cx fs M5 =>
              rw [ee] at hc
              subst hc
              intro w5 H5 dd s5 S5 r5
              rw [e34] at s5
              obtain ⟨u5, e5⟩ := s5.un
              rw [e5] at S5 r5
              exact h _ H5 dd ((s2.trans s34).trans u5) S5.back (RepX.gr Gr.back _ _ r5)
            | ok y M5 =>
              rw [ee] at hc
              simp only [Out.bind_ok] at hc
              intro w5 H5 v5 s5 S5 r5
              have s5c := s5
              rw [e34] at s5c
              obtain ⟨u5, e5⟩ := s5c.un
              have hD5 : H5 D = some (.lst us) := s5.keep D _ hD3 av3
              have ra5 := RepL.mono s5 _ _ (RepL.mono s3 _ _ ra)
              have ll := ra5.len
              have av5 : w5.av D := by rw [e5]; exact .inr rfl
              have hz' : xs.length ≤ sizeLine := Nat.le_of_not_lt hz
              refine ⟨us, hD5, by omega, rfl, hlt, ⟨w2.av, w5.ι⟩, M5, acc ++ [y], us ++ [v5], ((s2.trans s34).trans u5).updAv hD _, ?_, upd_same, ?_, by simp; omega, hc⟩
              · rw [← e5]; exact S5.updAv av5 trivial
              · rw [← e5]
                exact RepL.gr (Gr.updAv av5 _) _ _ (ra5.append (RepL.cons r5 RepL.nil))
        · subst hc; exact h.elim
      · left
        have e : i = xs.length := by omega
        subst e
        rw [List.drop_length] at hc
        have hc : Out.ok acc M2 = r := hc
        subst hc
        unfold endX at h
        simp only at h
        split at h
        · rename_i hg
          simp only [Out.bind_ok] at h
          refine ⟨wk.stop _ _ _ gr2 S2 hg _ (Nat.le_refl _), ?_⟩
          have nav : ¬ w2.av D := fun z => by
            rw [s2.av] at z
            obtain ⟨_, o, eo, _⟩ := S1.av D z
            rw [hD] at eo; cases eo
          have nι : D ∉ w2.ι := (S2.av D (.inr rfl)).1
          have hz' : acc.length ≤ sizeLine := Nat.le_trans hal (Nat.le_of_not_lt hz)
          cases m with
          | false =>
            exact h w2 H2 _ s2 S2.back (rep_lst.mpr ⟨D, us, rfl, .inl ⟨fun z => z.elim nι nav, .inl eD⟩, hz', RepL.gr Gr.back _ _ ra⟩)
          | true =>
            have hl : w2.ι.length = M2.length := S2.len
            refine h (w2.push D) H2 _ ?_ (S2.adopt nav ⟨us, eD, hz', RepL.gr Gr.adopt _ _ ra⟩) (rep_ref.mpr ⟨D, rfl, ?_⟩)
            · obtain ⟨new, e1, e2⟩ := s2.ι
              refine ⟨s2.av, ⟨new ++ [D], by simp [Wd.push, e1], fun a ha => ?_⟩, s2.keep, s2.live, s2.frz⟩
              rcases List.mem_append.mp ha with z | z
              · exact e2 a z
              · have : a = D := by simpa using z
                rw [this]; exact hD
            · show (w2.ι ++ [D])[M2.length]? = some D
              rw [← hl]
              exact List.getElem?_concat_length
        · exact h.elim
section
variable {X : Cx}
theorem pe_lcX {elt tg iter : Expr} {scope : Scope} {own : List (Str × Nat)} {pos : Pos} {wi : TI} {g : TG} {te : L2.St → TE} (hc : X.calm = true) (hN : X.N.Nodup) (hi : PI X tg iter wi) (ok : BlkOk X.N X.env.scope scope own)
    (hg : ∀ (s : Shared) (H : Hp) (C : Addr) (cl : List (Str × Addr)) (fp : List Addr), PG (X.blk s H scope (compEnvC scope cl C X.env) fp) tg g)
    (he : ∀ (pins : List (Addr × Obj)) (σ : L2.St) (s : Shared) (H : Hp) (cl : List (Str × Addr)) (fp : List Addr), L2.Inv X pins σ H s → (∀ b ∈ fp, FpOk X pins H b) →
      PE ((X.blk s H scope (compEnvC scope cl s.heap.objs.size X.env) fp).wish (notedBy (model X.prog X.w) X.A (compEnvC scope cl s.heap.objs.size X.env) (CompFails (model X.prog X.w) X.A X.xe (compEnvC scope cl s.heap.objs.size X.env)))) elt (te σ))
    (hs : ∀ x, foldedSetIterable iter X.env x = pure x) :
    PE X (.ListComp elt [⟨tg, iter, [], 0⟩] scope pos) (fun σ H Q => tLc wi g tYes (te σ) (own.map (·.2)) σ H Q) := by
  refine ⟨fun pins s σ H Q I h => ?_⟩
  rw [eval_ListComp]
  have hfree : ∀ y ∈ scope.names, y.2 = .free → ∃ c, X.env.cells.lookup y.1 = some c := fun y hy e => by
    rcases ok.free y hy e with k | k
    · exact I.ok.has _ (.inl k)
    · exact I.ok.has _ (.inr k)
  refine comprehension_at (use := none) rfl hs (closure_ok hfree) ok.kind (fun y hy e => by rw [ok.uniq y hy, e])
    (thn (hi.run pins s σ H _ I h) fun xv s1 hx => thn hx fun itv s2 h2 => ?_)
  obtain ⟨it, fp, tn, J, H2, e, I2, T, st2, f2, q⟩ := h2
  subst e
  refine wpAny_newObj_type (newEnv_comp ?_) (by show 0 ≤ sizeLine; decide)
  generalize hD : s2.heap.objs.size = D
  have hDn : H2 D = none := I2.hok.fresh (Nat.le_of_eq hD)
  obtain ⟨W, ⟨m0, w0⟩, turn⟩ := q D hDn
  generalize hs3 : ({ s2 with heap := s2.heap.push { cls := .type "list", data := .seq ([] : List Value).toArray } } : Shared) = s3
  have I3 : L2.Inv X pins σ (upd H2 D (.lst [])) s3 := by
    rw [← hs3]
    refine I2.laid (t' := s2.toks) (fun b o e => Heap.get?_push_of_some _ e) (Nat.le_of_eq hD) ⟨Nat.zero_le _, [], 0, .nil, ?_⟩
    rw [← hD]
    exact Heap.get?_push_size _ rfl
  have h3 : s3.heap = s2.heap.push { cls := .type "list", data := .seq ([] : List Value).toArray } := by rw [← hs3]
  have sz : ∀ b ∈ fp, b < s2.heap.objs.size := fun b hb => by
    obtain ⟨o, e, _⟩ := T.obj _ _ st2 b hb
    exact Heap.lt_size e
  have f3 : ∀ b ∈ fp, FpOk X pins (upd H2 D (.lst [])) b ∧ b < s3.heap.objs.size := fun b hb => by
    have hlt := sz b hb
    refine ⟨⟨?_, (f2 b hb).2⟩, by rw [h3, Heap.size_push]; exact Nat.lt_succ_of_lt hlt⟩
    rw [upd_ne (by rw [← hD]; exact Nat.ne_of_lt hlt)]
    exact (f2 b hb).1
  have st3 : tn 0 s3.heap := T.keep _ _ _ st2 fun b _ o e => by rw [h3]; exact Heap.get?_push_of_some _ e
  have I4 := block_start I3 ok hN f3
  have pg := hg s3 (upd H2 D (.lst [])) s3.heap.objs.size (cellsFrom (s3.heap.objs.size + 1) scope.names (cloFrom X.env.cells scope.names [])) fp
  have pe := he pins σ s3 (upd H2 D (.lst [])) (cellsFrom (s3.heap.objs.size + 1) scope.names (cloFrom X.env.cells scope.names [])) fp I3 fun b hb => (f3 b hb).1
  show codeAny _ _ (.compStart (.ListComp elt [⟨tg, iter, [], 0⟩] scope pos) 0 (.ref it) (.ref D) (compEnvC scope (cellsFrom (s3.heap.objs.size + 1) scope.names (cloFrom X.env.cells scope.names [])) s3.heap.objs.size X.env)) (compEnds (model X.prog X.w) X.A X.xe none (EP X pins σ Q) (.ref D) (compEnvC scope (cellsFrom (s3.heap.objs.size + 1) scope.names (cloFrom X.env.cells scope.names [])) s3.heap.objs.size X.env)) { s3 with heap := pushCells (s3.heap.push { cls := .type "dict", data := .dict #[] }) scope.names }
  have nfp : ∀ b ∈ fp, (upd H2 D (.lst [])) b = none := fun b hb => (f3 b hb).1.1
  generalize hce : compEnvC scope (cellsFrom (s3.heap.objs.size + 1) scope.names (cloFrom X.env.cells scope.names [])) s3.heap.objs.size X.env = ce at I4 pg pe ⊢
  have cL : ce.locals = s3.heap.objs.size := by subst hce; rfl
  generalize hH3 : upd H2 D (.lst []) = H3 at I3 I4 pg pe w0 nfp f3
  generalize hs4 : ({ s3 with heap := pushCells (s3.heap.push { cls := .type "dict", data := .dict #[] }) scope.names } : Shared) = s4 at I4 ⊢
  have st4 : tn 0 s4.heap := T.keep _ _ _ st3 fun b _ o e => by rw [← hs4]; exact pushCells_keeps _ _ _ _ (Heap.get?_push_of_some _ e)
  have stat : ∀ {σ' : L2.St} {H' : Hp} {s' : Shared}, L2.Inv (X.blk s3 H3 scope ce fp) [] σ' H' s' → (∀ b ∈ fp, H' b = none) → ∀ b ∈ fp, FpOk (X.blk s3 H3 scope ce fp) [] H' b := fun {σ' H' s'} I' hn b hb =>
    ⟨hn b hb, (I'.ok.exf b hb).1, I'.ok.exfs b hb, .inl hb, fun x c e => (I'.ok.exf b hb).2 x c e, fun p hp => absurd (show p ∈ ([] : List (Addr × Obj)) ++ [] from hp) (by simp)⟩
  have loop : codeAny (model X.prog X.w) X.A (.compLoop (.ListComp elt [⟨tg, iter, [], 0⟩] scope pos) 0 (.ref it) (.ref D) ce) (compEnds (model X.prog X.w) X.A X.xe none (EP X pins σ Q) (.ref D) ce) s4 := by
    refine compLoop_any (fun n s' => ∃ i H', L2.Inv (X.blk s3 H3 scope ce fp) [] (wipe σ (own.map (·.2))) H' s' ∧ tn i s'.heap ∧ (∀ b ∈ fp, H' b = none) ∧ W i n H') ?_ m0 ⟨0, H3, I4, st4, nfp, w0⟩
    rintro n s5 ⟨i, H5, I5, st5, n5, w5⟩
    rcases turn i n H5 w5 with ⟨stop, qq⟩ | ⟨go, Nx, hNx, step⟩
    · have td := T.done (X.blk s3 H3 scope ce fp) rfl rfl rfl hc i [] s5 _ H5 (fun _ _ => False) I5 (stat I5 n5) st5 stop
      refine thnF td fun r s6 ⟨hr, I6⟩ => ?_
      subst hr
      have I7 : L2.Inv X pins σ H5 s6 := I3.call' (ch := fp) I6.os I6.base I6.hok I6.bare fun b hb => ⟨(f3 b hb).1.2.2.2.1, (f3 b hb).1.2.1, (f3 b hb).1.2.2.2.2.1, (f3 b hb).1.2.2.2.2.2⟩
      have nC : H5 s3.heap.objs.size = none := by
        have z : H5 ce.locals = none := I6.free
        rw [cL] at z
        exact z
      obtain ⟨m, hn, _⟩ := I6.loc
      have hn : s6.heap.Ns ce.locals m := hn
      obtain ⟨g0, g1, g2, g3, g4, g5⟩ := I3.fpOk (Nat.le_refl _) nC
      refine ⟨m, hn, fun h'' sb => ?_⟩
      rw [cL] at sb
      exact ⟨.ref D, H5, I7.turned (t' := s6.toks) (fun b o hb e => (sb.2 b hb).trans e) g0 g1 g3 g4 g5, rfl, qq⟩
    · have ti := T.item (X.blk s3 H3 scope ce fp) rfl rfl rfl hc i [] s5 _ H5 (fun _ _ => False) I5 (stat I5 n5) st5 go
      refine thnF ti fun r s6 ⟨u, hr, h6⟩ => ?_
      subst hr
      refine thnF h6 fun _ s7 ⟨x, H7, I7, r7, y7, st7, n7⟩ => ?_
      have I7' := I7.pinned (stat I7 n7) (T.obj _ _ st7)
      refine thnF (pg.run _ s7 _ H7 x u _ I7' r7 (step x H7 y7)) fun _ s8 ⟨σ8, H8, I8, hw8, q8⟩ => ?_
      refine wpAny_tests_nil ?_
      have q9 : te σ σ8 H8 fun y H4 => ∃ acc, H4 D = some (.lst acc) ∧ acc.length < sizeLine ∧ Nx (upd H4 D (.lst (acc ++ [y]))) := by
        have := q8
        unfold tYes at this
        simpa only [if_true] using this
      have fin : ∀ {s' : Shared} {H' : Hp}, L2.Inv (X.blk s3 H3 scope ce fp) ([] ++ pinsAt fp s7.heap) σ8 H' s' → Nx H' → ∃ m, m < n ∧ ∃ i H', L2.Inv (X.blk s3 H3 scope ce fp) [] (wipe σ (own.map (·.2))) H' s' ∧ tn i s'.heap ∧ (∀ b ∈ fp, H' b = none) ∧ W i m H' := fun {s' H'} I' nx => by
        obtain ⟨m', hm, w'⟩ := hNx H' nx
        have pin' : ∀ b ∈ fp, ∀ o, s7.heap.get? b = some o → s'.heap.get? b = some o ∧ H' b = none := fun b hb o e =>
          let z := I'.pin (b, o) (List.mem_append_right _ (List.mem_append_right _ (mem_pinsAt hb e)))
          ⟨z.1, z.2.1⟩
        have hl : (wipe σ (own.map (·.2))).length = σ8.length := by rw [← hw8, wipe_length]
        refine ⟨m', hm, i + 1, H', (I'.unpinned (pins := [])).weak hl (fun j v e => ?_), T.keep _ _ _ st7 fun b hb o e => (pin' b hb o e).1, fun b hb => ?_, w'⟩
        · rw [← hw8] at e
          exact (wipe_some e).1
        · obtain ⟨o, e, _⟩ := T.obj _ _ st7 b hb
          exact (pin' b hb o e).2
      show if true = true then _ else _
      rw [if_pos rfl]
      refine thn (pe.run _ s8 σ8 H8 _ (I8.wish _) q9) fun z s10 ⟨yv, H10, I10, r10, acc, hD10, hz10, nx⟩ => ?_
      exact app_ok (X := X.blk s3 H3 scope ce fp) I10.unwish hD10 hz10 r10 fun s11 I11 => fin I11 nx
  exact codeAny_compStart_list loop (T.self X.A 0 _ _ _ st4 loop)
end
end Fw
namespace Fw
open PySem PySem.Spec PyProof.Rows L2
def tst : E → Bool
  | .orv _ _ => false
  | .ite _ _ _ => false
  | .not a => tst a
  | .and a b => tst a && tst b
  | .or a b => tst a && tst b
  | _ => true
structure Tb where
  P : Pg
  T : List Fn
  gn : List (Str × Nat)
  fn : List (Str × Nat)
  cn : List (Str × Nat)
  bi : List Str
  rk : Nat → Option Bool
  df : Nat → Bool
  on : List (Str × Nat)
  an : List Str
  mn : List Str
  cold : List (Str × Nat) := []
def coldT (tb : Tb) : Tb := ⟨tb.P, tb.T, tb.gn, tb.cold, tb.cn, tb.bi, tb.rk, tb.df, [], tb.an, [], []⟩
mutual
def tlv : S → Nat
  | .ite _ a b => max (tlvs a) (tlvs b)
  | .whl _ b => tlvs b
  | .loop _ _ _ b => tlvs b
  | .loopD _ _ b => tlvs b
  | .try_ b _ _ _ => if tlvs b ≤ 1 then 1 else 3
  | .tryR b _ _ _ => if tlvs b = 0 then 2 else 3
  | .retX _ _ _ _ _ => 1
  | _ => 0
def tlvs : List S → Nat
  | [] => 0
  | s :: r => max (tlv s) (tlvs r)
end
def isGl (sc : Scope) (x : Str) : Bool := match sc.names.lookup x with
  | some .globalImplicit => true
  | _ => false
def isVis (sc : Scope) (x : Str) : Bool := match sc.names.lookup x with
  | some .local => true
  | some .cell => true
  | some .free => true
  | _ => false
def plainName (x : Str) : Bool := !(x == ("__debug__" : Str)) && !(x == ("__classdict__" : Str)) && !(x == ("__name__" : Str))
def hasFn (l : List (Str × Nat)) (x : Str) (f : Nat) : Bool := l.any fun p => decide (p.1 = x) && decide (p.2 = f)
theorem hasFn_mem {l : List (Str × Nat)} {x : Str} {f : Nat} (h : hasFn l x f = true) : (x, f) ∈ l := by
  unfold hasFn at h
  obtain ⟨⟨a, b⟩, hm, hp⟩ := List.any_eq_true.mp h
  simp only [Bool.and_eq_true, decide_eq_true_eq] at hp
  obtain ⟨rfl, rfl⟩ := hp
  exact hm
def chkLit (d : D) : Const → Bool
  | .none => match d with | .non => true | _ => false
  | .bool b => match d with | .bl b' => b == b' | _ => false
  | .int i => match d with | .int j => i == j | _ => false
  | .str s => match d with | .str l => decide (s.cps = l.toArray) && decide (l.length ≤ 16777216) && l.all (fun k => decide (k < 1114112)) | _ => false
  | _ => false
def opB (o : Operator) : BOp → Bool
  | .add => o == .Add | .sub => o == .Sub | .mul => o == .Mult | .fdiv => o == .FloorDiv | .mod => o == .Mod | .pow => o == .Pow | .shr => o == .RShift | .band => o == .BitAnd
def biName : Bi → Str
  | .abs => "abs" | .max2 => "max" | .min2 => "min" | .maxl => "max" | .minl => "min" | .sum => "sum" | .all => "all" | .len => "len"
  | .int => "int" | .str => "str" | .list => "list" | .tuple => "tuple" | .sorted => "sorted" | .dict => "dict" | .lenset => "len"
def biDone : Bi → Bool
  | .abs | .max2 | .min2 | .maxl | .minl | .sum | .all | .len | .list | .tuple | .int | .str | .sorted | .dict => true
  | _ => false
def bmName : Bm → Str
  | .append => "append" | .extend => "extend" | .pop => "pop" | .reverse => "reverse" | .clear => "clear" | .index => "index"
  | .get1 => "get" | .get2 => "get" | .dpop => "pop" | .update => "update" | .setdefault => "setdefault" | .values => "values" | .dclear => "clear"
  | .starts3 => "startswith" | .join => "join" | .split => "split" | .partition => "partition" | .startswith => "startswith" | .bitlen => "bit_length" | .count => "count" | .tindex => "index"
def bmDone : Bm → Bool
  | .append | .extend | .pop | .reverse | .clear | .join | .split | .bitlen | .index | .get1 | .dpop | .starts3 | .setdefault | .update | .dclear | .tindex => true
  | _ => false
def tyName : Ty → Str
  | .int => "int" | .bool => "bool" | .str => "str" | .list => "list" | .tuple => "tuple" | .dict => "dict" | .valErr => "ValueError" | .cls _ => ""
def chkTy (tb : Tb) (sc : Scope) (t : Ty) : Expr → Bool
  | .Name x _ => plainName x && isGl sc x && match t with
    | .cls k => decide (tb.cn.lookup x = some k) && tb.P.ok k
    | t => decide (tyName t = x) && tb.bi.contains x
  | _ => false
def chkTys (tb : Tb) (sc : Scope) : List Ty → List Expr → Bool
  | [], [] => true
  | t :: ts, x :: xs => chkTy tb sc t x && chkTys tb sc ts xs
  | _, _ => false
def chkOne (tb : Tb) (sc : Scope) (ts : List Ty) (x : Expr) : Bool := match ts with
  | [t] => chkTy tb sc t x
  | _ => false
def chkIsi (tb : Tb) (sc : Scope) (ts : List Ty) : Expr → Bool
  | .Tuple xs _ _ => decide (ts ≠ []) && decide (ts.length ≤ 1000) && chkTys tb sc ts xs
  | x => chkOne tb sc ts x
def ownOf' : List Nat → Expr → List (Str × Nat)
  | [i], .Name x _ => [(x, i)]
  | is, .Tuple es _ _ => (es.map fun e => match e with | .Name x _ => x | _ => "").zip is
  | _, _ => []
def notSet : Expr → Bool
  | .Set .. => false
  | _ => true
def isTup : Expr → Bool
  | .Tuple .. => true
  | _ => false
def itArgs (tb : Tb) (sc : Scope) (k : ItK) (tg iter : Expr) : Option (List Expr) := match k with
  | .seq => if notSet iter then some [iter] else none
  | .tupc => if notSet iter then some [iter] else none
  | .rng1 => match iter with
    | .Call (.Name f _) [a] [] _ => if decide (f = "range") && isGl sc f && tb.bi.contains f then some [a] else none
    | _ => none
  | .rng2 => match iter with
    | .Call (.Name f _) [a, b] [] _ => if decide (f = "range") && isGl sc f && tb.bi.contains f then some [a, b] else none
    | _ => none
  | .rng3 => match iter with
    | .Call (.Name f _) [a, b, c] [] _ => if decide (f = "range") && isGl sc f && tb.bi.contains f then some [a, b, c] else none
    | _ => none
  | .enum => match iter with
    | .Call (.Name f _) [a] [] _ => if decide (f = "enumerate") && isGl sc f && tb.bi.contains f && isTup tg then some [a] else none
    | _ => none
  | .zip => match iter with
    | .Call (.Name f _) [a, b] [] _ => if decide (f = "zip") && isGl sc f && tb.bi.contains f && isTup tg then some [a, b] else none
    | _ => none
def chkDisp (t : DKd) (ks vs : List E) (keys : List (Option Expr)) (values : List Expr) : Bool := match ks, vs, keys, values with
  | [], [], [], [] => true
  | [.lit a], [.lit b], [some (.Constant ka _ _)], [.Constant kb _ _] => chkLit a ka && chkLit b kb && key1 a && decide (t = .one)
  | _, _, _, _ => false
def chkKeys : List D → List (Option Expr) → Bool
  | [], [] => true
  | d :: ds, some (.Constant k _ _) :: ks => chkLit d k && key1 d && chkKeys ds ks
  | _, _ => false
def isNonL : List E → Bool
  | [.lit .non] => true
  | _ => false
def chkVar (N : List Str) (sc : Scope) (i : Nat) : Expr → Bool
  | .Name x _ => decide (N[i]? = some x) && isVis sc x && plainName x
  | _ => false
def isFv (x : Nat) : Option D → Bool
  | some (.cls y) => decide (y = x)
  | _ => false
def fvOk (tb : Tb) (x : Nat) : Bool := tb.fn.any fun p => decide (p.2 = x - 500) && (match tb.gn.lookup p.1 with | some k => isFv x tb.P.gl[k]? | none => false)
mutual
def chkE (tb : Tb) (N : List Str) (sc : Scope) : E → Expr → Bool
  | .var i, x => match x with
    | .Name x _ => decide (N[i]? = some x) && isVis sc x && plainName x
    | _ => false
  | .lit d, x => match x with
    | .Constant k _ _ => chkLit d k
    | _ => false
  | .glo k, x => match x with
    | .Name x _ => isGl sc x && decide (tb.gn.lookup x = some k) && plainName x
    | _ => false
  | .bin _ op a b, x => match x with
    | .BinOp p o q _ => opB o op && chkE tb N sc a p && chkE tb N sc b q
    | _ => false
  | .neg a, x => match x with
    | .UnaryOp .USub p _ => chkE tb N sc a p
    | _ => false
  | .not a, x => match x with
    | .UnaryOp .Not p _ => chkE tb N sc a p
    | _ => false
  | .cmp op a b, x => match x with
    | .Compare p [o] [q] _ => (o == pyCop op) && chkE tb N sc a p && chkE tb N sc b q && notSet q
    | _ => false
  | .cmp2 o1 o2 a b c, x => match x with
    | .Compare p [u, v] [q, r] _ => (u == pyCop o1) && (v == pyCop o2) && chkE tb N sc a p && chkE tb N sc b q && chkE tb N sc c r && notSet r
    | _ => false
  | .and a b, x => match x with
    | .BoolOp .And (p :: q :: r) pos => chkE tb N sc a p && chkE tb N sc b (match r with | [] => q | _ => .BoolOp .And (q :: r) pos)
    | _ => false
  | .or a b, x => match x with
    | .BoolOp .Or (p :: q :: r) pos => chkE tb N sc a p && chkE tb N sc b (match r with | [] => q | _ => .BoolOp .Or (q :: r) pos)
    | _ => false
  | .ite c a b, x => match x with
    | .IfExp r p q _ => chkE tb N sc c r && tst c && chkE tb N sc a p && chkE tb N sc b q
    | _ => false
  | .tup es, x => match x with
    | .Tuple xs _ _ => chkL tb N sc es xs && decide (es.length ≤ 1000)
    | _ => false
  | .lst _ es, x => match x with
    | .List xs _ => chkL tb N sc es xs && decide (es.length ≤ 1000)
    | _ => false
  | .idx a b, x => match x with
    | .Subscript p q _ => chkE tb N sc a p && chkE tb N sc b q && notSlice q
    | _ => false
  | .sl _ a lo hi, x => match x with
    | .Subscript p (.Slice l h none _) _ => chkE tb N sc a p && (match l with | none => isLN lo | some l => !isLN lo && chkE tb N sc lo l) && (match h with | none => isLN hi | some h => !isLN hi && chkE tb N sc hi h)
    | _ => false
  | .call _ f es, x => match x with
    | .Call (.Name x _) xs [] _ => isGl sc x && hasFn tb.fn x f && plainName x && chkL tb N sc es xs
    | _ => false
  | .callA f es, x => match x with
    | .Call (.Name x _) xs [] _ => isGl sc x && hasFn tb.fn x f && plainName x && chkL tb N sc es xs
    | _ => false
  | .callS f es, x => match x with
    | .Call (.Name x _) xs [] _ => isGl sc x && hasFn tb.fn x f && plainName x && chkL tb N sc es xs
    | _ => false
  | .new k es, x => match x with
    | .Call (.Name x _) xs [] _ => isGl sc x && decide (tb.on.lookup x = some k) && plainName x && (tb.P.ini k).isSome && chkL tb N sc es xs
    | _ => false
  | .meth k o es, x => match x with
    | .Call (.Attribute p n apos) xs [] pos => decide (tb.mn[k]? = some n) && (apos.endLine == pos.line) && plainBase p && chkE tb N sc o p && chkL tb N sc es xs && decide (xs.length < 20)
    | _ => false
  | .bi _ b es, x => match x with
    | .Call (.Name x _) (y :: xs) [] _ => isGl sc x && decide (biName b = x) && tb.bi.contains x && biDone b && chkL tb N sc es (y :: xs)
    | _ => false
  | .bm _ b o es, x => match x with
    | .Call (.Attribute p n apos) xs [] pos => decide (bmName b = n) && bmDone b && (apos.endLine == pos.line) && plainBase p && chkE tb N sc o p && chkL tb N sc es xs && decide (xs.length < 20)
    | _ => false
  | .attr o f, x => match x with
    | .Attribute p n _ => decide (tb.an[f]? = some n) && plainBase p && chkE tb N sc o p
    | _ => false
  | .isi a ts, x => match x with
    | .Call (.Name x _) [p, q] [] _ => isGl sc x && decide (x = "isinstance") && tb.bi.contains x && chkE tb N sc a p && notStar p && notStar q && chkIsi tb sc ts q
    | _ => false
  | .comp _ tg k its c e, x => match x with
    | .ListComp y [⟨t, iter, ifs, 0⟩] scope _ => blkC N sc scope (ownOf' tg t) && decide ((ownOf' tg t).map (·.2) = tg) && chkTg N (relS scope sc) false tg t && notSet iter && (match itArgs tb sc k t iter with | some xs => chkL tb N sc its xs | none => false)
        && (match c with | none => ifs.isEmpty | some c => match ifs with | [z] => chkE tb N (relS scope sc) c z && tst c | _ => false) && chkE tb N (relS scope sc) e y
    | _ => false
  | .dict t ks vs, x => match x with
    | .Dict keys values _ => chkDisp t ks vs keys values
    | _ => false
  | .rev _ a, x => match x with
    | .Subscript p (.Slice none none (some (.UnaryOp .USub (.Constant (.int i) _ _) _)) _) _ => decide (i = 1) && chkE tb N sc a p
    | _ => false
  | .exv k es, x => match x with
    | .Call (.Name x _) xs [] _ => isGl sc x && decide (tb.cn.lookup x = some k) && plainName x && tb.P.ok k && decide (tb.rk k = some true) && ((decide (xs.length = 1) && chkL tb N sc es xs) || (isNonL es && xs.isEmpty && tb.df k))
    | _ => false
  | .disp ks vs, x => match x with
    | .Dict keys values _ => chkKeys ks keys && chkL tb N sc vs values && decide (keys.length = values.length) && !keys.isEmpty && decide (keys.length ≤ 15)
    | _ => false
  | .lzip _ a b, x => match x with
    | .Call (.Name x _) [.Call (.Name z _) [p, q] [] _] [] _ => decide (x = "list") && decide (z = "zip") && isGl sc x && isGl sc z && tb.bi.contains x && tb.bi.contains z && chkE tb N sc a p && chkE tb N sc b q && notStar p && notStar q
    | _ => false
  | .lens a, x => match x with
    | .Call (.Name x _) [.Call (.Name z _) [p] [] _] [] _ => decide (x = "len") && decide (z = "set") && isGl sc x && isGl sc z && tb.bi.contains x && tb.bi.contains z && chkE tb N sc a p && notStar p
    | _ => false
  | .orv a b, x => match x with
    | .BoolOp .Or [p, q] _ => chkE tb N sc a p && chkE tb N sc b q
    | _ => false
  | .dzip a b, x => match x with
    | .Call (.Name x _) [.Call (.Name z _) [p, q] [] _] [] _ => decide (x = "dict") && decide (z = "zip") && isGl sc x && isGl sc z && tb.bi.contains x && tb.bi.contains z && chkE tb N sc a p && chkE tb N sc b q && notStar p && notStar q
    | _ => false
  | .compD _ tg i c e, x => match x with
    | .ListComp y [⟨t, iter, ifs, 0⟩] scope _ => blkC N sc scope (ownOf' tg t) && decide ((ownOf' tg t).map (·.2) = tg) && chkTg N (relS scope sc) false tg t && chkVar N sc i iter
        && (match c with | none => ifs.isEmpty | some c => match ifs with | [z] => chkE tb N (relS scope sc) c z && tst c | _ => false) && chkE tb N (relS scope sc) e y
    | _ => false
  | .tupC es, x => match x with
    | .Tuple xs _ _ => chkL tb N sc es xs && decide (es.length ≤ 1000)
    | _ => false
  | .idxL a b, x => match x with
    | .Subscript p q _ => chkE tb N sc a p && chkE tb N sc b q && notSlice q
    | _ => false
  | .callV i fs es, x => match x with
    | .Call (.Name x _) (y :: xs) [] _ => decide (N[i]? = some x) && isVis sc x && plainName x && fs.all (fvOk tb) && chkL tb N sc es (y :: xs)
    | _ => false
  | .compX _ _ _ _ _ _, _ => false
  | .no, _ => true
def chkL (tb : Tb) (N : List Str) (sc : Scope) : List E → List Expr → Bool
  | [], xs => xs.isEmpty
  | e :: es, xs => match xs with
    | x :: xs => chkE tb N sc e x && notStar x && chkL tb N sc es xs
    | [] => false
end
structure XOk (c : Ct) (tb : Tb) (Φ : Orc) (lvl : Nat) (CX : CXT) (N : List Str) (sc : Scope) (fb : Bool) (W : WX) (X : Cx) : Prop where
  K : X.K = c.K
  st : StOk N sc fb X
  calm : X.calm = true
  kit : KitOk c tb.P tb.P.ok
  gle : tb.P.gl = c.gl
  con : ∀ x i, tb.gn.lookup x = some i → ∃ u, X.mg x = some u ∧ RelV (c.gv i) u
  bi : ∀ x, tb.bi.contains x = true → X.mg x = none
  cls : ∀ x i, tb.cn.lookup x = some i → X.mg x = some (.ref (c.ca i))
  fn : ∀ x f, (x, f) ∈ tb.fn → ∃ a fd ps, X.mg x = some (.ref a) ∧ PySem.W.keepIn X.K (.ref a) = true ∧ Binds X.K fd ps [] ∧ FnOk X.prog X.w X.K X.mg X.base CX lvl a fd ps (spF c Φ f)
  room : Room (lvl + 1) X.A
  ob : ObOk c tb.P tb.an tb.mn tb.on Φ lvl CX X.prog X.w X.mg X.base
  pass : ∀ τ, PassesAt CX X τ (fun cls d H' => W cls d τ H')
  cxF : ∀ outer H s u s', ¬ CX outer H s (fun _ _ _ => False) u s'
  rk : RkOk c tb.rk tb.df X.prog X.w X.mg X.base
  lv2 : 1 ≤ lvl
section
variable {c : Ct} {tb : Tb} {Φ : Orc} {lvl : Nat} {CX : CXT} {N : List Str} {sc : Scope} {fb : Bool} {W : WX} {X : Cx}
theorem XOk.gl (h : XOk c tb Φ lvl CX N sc fb W X) {x : Str} (k : isGl sc x = true) : Gl X x := by
  unfold isGl at k
  show X.env.scope.names.lookup x = _
  rw [h.st.sc]
  split at k
  · assumption
  · cases k
theorem XOk.vis (h : XOk c tb Φ lvl CX N sc fb W X) {x : Str} (k : isVis sc x = true) : Vis X.env.scope x := by
  unfold isVis at k
  rw [h.st.sc]
  split at k
  · exact .inl (by assumption)
  · exact .inr (.inl (by assumption))
  · exact .inr (.inr (by assumption))
  · cases k
theorem XOk.un (h : XOk c tb Φ lvl CX N sc fb W X) : X.A.units + 65 < cLine := by have := h.room.un; omega
theorem XOk.blk (h : XOk c tb Φ lvl CX N sc fb W X) (scope : Scope) (s : Shared) (H : Hp) (C : Addr) (cl : List (Str × Addr)) (fp : List Addr) : XOk c tb Φ lvl CX N (relS scope sc) false WF (X.blk s H scope (compEnvC scope cl C X.env) fp) :=
  ⟨h.K, ⟨h.st.hN, h.st.nd, by show relS scope X.env.scope = _; rw [h.st.sc], fun z => nomatch z⟩, h.calm, h.kit, h.gle, h.con, h.bi, h.cls, h.fn, h.room, h.ob, fun τ pins H' s' e s'' _ q => (h.cxF _ _ _ _ _ q).elim, h.cxF, h.rk, h.lv2⟩
theorem plain_dbg {x : Str} (h : plainName x = true) : (x == ("__debug__" : Str)) = false ∧ (x == ("__classdict__" : Str)) = false ∧ x ≠ "__name__" := by
  unfold plainName at h
  simp only [Bool.and_eq_true, Bool.not_eq_true'] at h
  exact ⟨h.1.1, h.1.2, fun z => by rw [z] at h; simp at h⟩
theorem biPlain {b : Bi} {x : Str} (h : biName b = x) : plainName x = true := by subst h; cases b <;> decide +kernel
theorem chkTy_ok (h : XOk c tb Φ lvl CX N sc fb W X) {t : Ty} {x : Expr} (k : chkTy tb sc t x = true) : okTy tb.P.ok t = true ∧ PE X x (tC (tyVV c t)) ∧ notStar x = true := by
  cases x with
  | Name x pos =>
    simp only [chkTy, Bool.and_eq_true] at k
    obtain ⟨⟨k1, k2⟩, k3⟩ := k
    obtain ⟨d1, d2, d3⟩ := plain_dbg k1
    have bt : ∀ (T : String) (v : Value), v = .type T → (decide (tyName t = x) && tb.bi.contains x) = true → tyVV c t = .ty T → bootBuiltins (tyName t) = some v → PE X (.Name x pos) (tC (tyVV c t)) := by
      intro T v ev k4 e1 e2
      rw [Bool.and_eq_true, decide_eq_true_eq] at k4
      rw [e1]
      rw [k4.1] at e2
      exact pe_bltn (h.gl k2) (h.bi x k4.2) e2 (by rw [ev]; rfl) d3 d1
    cases t with
    | cls j =>
      simp only [Bool.and_eq_true, decide_eq_true_eq] at k3
      exact ⟨k3.2, pe_glob (h.gl k2) (h.cls x j k3.1) rfl d1, rfl⟩
    | int => exact ⟨rfl, bt "int" _ rfl k3 rfl (by decide +kernel), rfl⟩
    | bool => exact ⟨rfl, bt "bool" _ rfl k3 rfl (by decide +kernel), rfl⟩
    | str => exact ⟨rfl, bt "str" _ rfl k3 rfl (by decide +kernel), rfl⟩
    | list => exact ⟨rfl, bt "list" _ rfl k3 rfl (by decide +kernel), rfl⟩
    | tuple => exact ⟨rfl, bt "tuple" _ rfl k3 rfl (by decide +kernel), rfl⟩
    | dict => exact ⟨rfl, bt "dict" _ rfl k3 rfl (by decide +kernel), rfl⟩
    | valErr => exact ⟨rfl, bt "ValueError" _ rfl k3 rfl (by decide +kernel), rfl⟩
  | _ => simp [chkTy] at k
theorem chkTys_ok (h : XOk c tb Φ lvl CX N sc fb W X) : ∀ {ts : List Ty} {xs : List Expr}, chkTys tb sc ts xs = true → ts.all (okTy tb.P.ok) = true ∧ Paired (fun e t => notStar e = true ∧ PE X e (tC (tyVV c t))) xs ts
  | [], [], _ => ⟨rfl, .nil⟩
  | [], _ :: _, k => by simp [chkTys] at k
  | _ :: _, [], k => by simp [chkTys] at k
  | t :: ts, x :: xs, k => by
    simp only [chkTys, Bool.and_eq_true] at k
    obtain ⟨a1, a2, a3⟩ := chkTy_ok h k.1
    obtain ⟨b1, b2⟩ := chkTys_ok h k.2
    exact ⟨by rw [List.all_cons, a1, b1]; rfl, .cons ⟨a3, a2⟩ b2⟩
end
end Fw
namespace Fw
open PySem PySem.Spec PyProof.Rows L2
theorem nomarks {o : CmpOp} {q : Expr} (h : notSet q = true) : behindInMarks o q = false := by
  cases q <;> first | rfl | (simp [notSet] at h)
theorem pw_of_pt {X : Cx} {op : PySem.BoolOp} {vs : List Expr} {pos : Pos} {t : TT} (h : PT X (.BoolOp op vs pos) t) : PW X (.BoolOp op vs pos) t := ⟨fun wh pins s σ H Q I q => h.run pins s σ H Q I q⟩
section
variable {c : Ct} {tb : Tb} {Φ : Orc} {lvl : Nat} {CX : CXT} {N : List Str} {sc : Scope} {fb : Bool} {W : WX} {X : Cx}
theorem lit_ok {d : D} {k : Const} {j : Nat} {pos : Pos} (h : chkLit d k = true) : ∃ v, PE X (.Constant k j pos) (tC v) ∧ ∀ w H, Rep c w H d v := by
  cases k with
  | none =>
    cases d with
    | non => exact ⟨.non, pe_non, fun w H => rep_non.mpr rfl⟩
    | _ => simp [chkLit] at h
  | bool b =>
    cases d with
    | bl b' =>
      simp only [chkLit, beq_iff_eq] at h; subst h
      exact ⟨.bl b, pe_bl, fun w H => rep_bl.mpr rfl⟩
    | _ => simp [chkLit] at h
  | int i =>
    cases d with
    | int j' =>
      simp only [chkLit, beq_iff_eq] at h; subst h
      exact ⟨.int i, pe_int, fun w H => rep_int.mpr rfl⟩
    | _ => simp [chkLit] at h
  | str s =>
    cases d with
    | str l =>
      simp only [chkLit, Bool.and_eq_true, decide_eq_true_eq, List.all_eq_true] at h
      obtain ⟨⟨h1, h2⟩, h3⟩ := h
      have es : s = ⟨l.toArray⟩ := by cases s; simp only at h1; rw [h1]
      subst es
      exact ⟨.str _, pe_str, fun w H => rep_str.mpr ⟨rfl, by rw [sizeLine_eq]; exact h2, h3⟩⟩
    | _ => simp [chkLit] at h
  | _ => simp [chkLit] at h
theorem op_ok {o : Operator} {op : BOp} (h : opB o op = true) : o = pyOp op := by cases op <;> (simp only [opB, beq_iff_eq] at h; exact h)
theorem evL_len (P : Pg) : ∀ (es : List E), LenIs es.length (evL P Φ es)
  | [], σ, M, ds, M', h => by simp only [evL] at h; cases h; rfl
  | e :: es, σ, M, ds, M', h => by
    simp only [evL] at h
    obtain ⟨x, M1, _, h⟩ := bind_ok_inv h
    obtain ⟨xs, M2, e2, h⟩ := bind_ok_inv h
    cases h
    simp [evL_len P es σ M1 xs _ e2]
theorem l_disp {t : DKd} {ks vs : List E} {keys : List (Option Expr)} {values : List Expr} {pos : Pos} (k : chkDisp t ks vs keys values = true) : PE X (.Dict keys values pos) (tE c W fun σ M => match dispE t ks vs with
        | some (ds, es) => .ok (.ref M.length) (M ++ [.dic t ds es])
        | none => .bad) := by
  unfold chkDisp at k
  split at k
  · cases t with
    | tup =>
      refine pe_dnewM.weak fun τ H Q ⟨w, M, σ, S, RS, q⟩ p hp hs => ?_
      have s : Stp w H (w.push p) (upd H p (dM p [])) := Stp.push hp
      refine q (w.push p) _ _ s (S.push hp ⟨rfl, Nat.zero_le _, [], [], upd_same, hs, .nil, List.nodup_nil, fun _ h => (nomatch h), rfl, fun _ h => (nomatch h), RepL.nil⟩) (rep_ref.mpr ⟨p, rfl, ?_⟩)
      show (w.ι ++ [p])[M.length]? = some p
      rw [← S.len]
      exact List.getElem?_concat_length
    | two =>
      refine pe_dnewT.weak fun τ H Q ⟨w, M, σ, S, RS, q⟩ p hp => ?_
      have s : Stp w H (w.push p) (upd H p (.dT [])) := Stp.push hp
      refine q (w.push p) _ _ s (S.push hp ⟨rfl, Nat.zero_le _, [], upd_same, List.nodup_nil, rfl, fun _ h => (nomatch h), RepL.nil⟩) (rep_ref.mpr ⟨p, rfl, ?_⟩)
      show (w.ι ++ [p])[M.length]? = some p
      rw [← S.len]
      exact List.getElem?_concat_length
    | one =>
      refine pe_dnewK.weak fun τ H Q ⟨w, M, σ, S, RS, q⟩ p hp => ?_
      have s : Stp w H (w.push p) (upd H p (.dK [])) := Stp.push hp
      refine q (w.push p) _ _ s (S.push hp ⟨rfl, Nat.zero_le _, [], upd_same, List.nodup_nil, rfl, RepL.nil, RepL.nil⟩) (rep_ref.mpr ⟨p, rfl, ?_⟩)
      show (w.ι ++ [p])[M.length]? = some p
      rw [← S.len]
      exact List.getElem?_concat_length
  · rename_i a b ka j1 p1 kb j2 p2
    simp only [Bool.and_eq_true, decide_eq_true_eq] at k
    obtain ⟨⟨⟨k1, k2⟩, k3⟩, k4⟩ := k
    subst k4
    obtain ⟨v1, h1, r1⟩ := lit_ok (c := c) (X := X) (j := j1) (pos := p1) k1
    obtain ⟨v2, h2, r2⟩ := lit_ok (c := c) (X := X) (j := j2) (pos := p2) k2
    refine (pe_disp (trs := [(tC v1, tC v2)]) (pps_cons h1 h2 pps_nil) rfl rfl (by simp) (by simp)).weak fun τ H Q ⟨w, M, σ, S, RS, q⟩ p hp => ?_
    obtain ⟨kk, rfl, rfl⟩ := key1_ok (c := c) (w := w) (H := H) k3 (r1 w H)
    refine ⟨upd_same, [(kk, v2)], rfl, by simp, ?_⟩
    have eq : upd (upd H p (.dK [])) p (.dK (mergeK [] [(kk, v2)])) = upd H p (.dK [(kk, v2)]) := by
      funext x
      by_cases hx : x = p
      · subst hx; rw [upd_same, upd_same]; rfl
      · rw [upd_ne hx, upd_ne hx, upd_ne hx]
    rw [eq]
    have s : Stp w H (w.push p) (upd H p (.dK [(kk, v2)])) := Stp.push hp
    have q' : OkG c (Rep c) w H (.ok (.ref M.length) (M ++ [.dic .one [kD kk] [b]])) Q (fun cls d H' => W cls d τ H') := by
      have e : dispE .one [.lit (kD kk)] [.lit b] = some ([kD kk], [b]) := by
        exact if_pos ⟨rfl, k3⟩
      dsimp only at q
      rw [e] at q
      exact q
    refine q' (w.push p) _ _ s (S.push hp ⟨rfl, by rw [sizeLine_eq]; simp, [(kk, v2)], upd_same, by simp, rfl, RepL.cons (r1 _ _) RepL.nil, RepL.cons (r2 _ _) RepL.nil⟩) (rep_ref.mpr ⟨p, rfl, ?_⟩)
    show (w.ι ++ [p])[M.length]? = some p
    rw [← S.len]
    exact List.getElem?_concat_length
  · cases k
theorem l_rev {m : Bool} {e : Expr} {k : Nat} {p1 p2 p3 pos : Pos} {f : Sl → Hh → Out D} (hK : X.K = c.K) (he : PE X e (tE c W f)) : PE X (.Subscript e (.Slice none none (some (.UnaryOp .USub (.Constant (.int 1) k p1) p2)) p3) pos) (tE c W fun σ M => (f σ M).bind fun x M1 => revD m x M1) :=
  (pe_revL he).weak fun τ H Q ⟨w, M, σ, S, RS, q⟩ => (nxt S RS q).imp fun v H1 ⟨w1, M1, d, s, S1, RS1, r, q⟩ => by
    unfold revD at q
    split at q
    · rename_i xs hx
      obtain ⟨a, vs, rfl, hq, z, rr⟩ := lstOf_ok S1 hx r
      exact ⟨a, vs, rfl, by rw [hK]; exact hq, mkL_ok S1 rr.reverse (by rw [List.length_reverse]; exact z) q⟩
    · exact q.elim
theorem bi_ok (h : XOk c tb Φ lvl CX N sc fb W X) {b : Bi} {m : Bool} {x : Str} {y : Expr} {xs : List Expr} {p pos : Pos} {g : Sl → Hh → Out (List D)} (k1 : isGl sc x = true) (k2 : biName b = x) (k3 : tb.bi.contains x = true) (k4 : biDone b = true)
    (ha : PA X (y :: xs) (tL c W g)) (hs : (y :: xs).all notStar = true) : PE X (.Call (.Name x p) (y :: xs) [] pos) (tE c W fun σ M => (g σ M).bind (biD m b)) := by
  obtain ⟨d1, d2, d3⟩ := plain_dbg (biPlain k2)
  rw [List.all_cons, Bool.and_eq_true] at hs
  have hg := h.gl k1
  have hm := h.bi x k3
  subst k2
  cases b with
  | abs => exact l_callB (k := biD m .abs) b_abs hg hm (by decide +kernel) d3 d1 ha hs.1 hs.2
  | max2 => exact l_callB (k := biD m .max2) (b_max2 h.calm) hg hm (by decide +kernel) d3 d1 ha hs.1 hs.2
  | min2 => exact l_callB (k := biD m .min2) (b_min2 h.calm) hg hm (by decide +kernel) d3 d1 ha hs.1 hs.2
  | maxl => exact l_callB (k := biD m .maxl) (b_maxl h.K h.calm h.un) hg hm (by decide +kernel) d3 d1 ha hs.1 hs.2
  | minl => exact l_callB (k := biD m .minl) (b_minl h.K h.calm h.un) hg hm (by decide +kernel) d3 d1 ha hs.1 hs.2
  | sum => exact l_callB (k := biD m .sum) (b_sum h.K h.calm) hg hm (by decide +kernel) d3 d1 ha hs.1 hs.2
  | all => exact l_callB (k := biD m .all) (b_all h.K h.calm) hg hm (by decide +kernel) d3 d1 ha hs.1 hs.2
  | len => exact l_callB (k := biD m .len) (b_len h.K) hg hm (by decide +kernel) d3 d1 ha hs.1 hs.2
  | int => exact l_callTy (k := biD m .int) b_int hg hm (by decide +kernel) d3 d1 ha hs.1 hs.2
  | str => exact l_callTy (k := biD m .str) b_str hg hm (by decide +kernel) d3 d1 ha hs.1 hs.2
  | list => exact l_callTy (k := biD m .list) (b_list h.K h.calm m) hg hm (by decide +kernel) d3 d1 ha hs.1 hs.2
  | dict => exact l_callTy (k := biD m .dict) (b_dict h.K h.calm h.un) hg hm (by decide +kernel) d3 d1 ha hs.1 hs.2
  | tuple => exact l_callTy (k := biD m .tuple) (b_tuple h.K) hg hm (by decide +kernel) d3 d1 ha hs.1 hs.2
  | sorted => exact l_callB (k := biD m .sorted) (b_sorted h.K h.calm h.un m) hg hm (by decide +kernel) d3 d1 ha hs.1 hs.2
  | _ => simp [biDone] at k4
theorem bm_ok (h : XOk c tb Φ lvl CX N sc fb W X) {b : Bm} {m : Bool} {n : Str} {o : Expr} {xs : List Expr} {apos pos : Pos} {f : Sl → Hh → Out D} {g : Sl → Hh → Out (List D)} (k2 : bmName b = n) (k4 : bmDone b = true) (hb : plainBase o = true) (hl : (apos.endLine == pos.line) = true) (hlen : xs.length < 20)
    (ho : PE X o (tE c W f)) (ha : PA X xs (tL c W g)) (hs : xs.all notStar = true) (h0 : xs = [] → g = fun _ M => .ok [] M) : PE X (.Call (.Attribute o n apos) xs [] pos) (tE c W fun σ M => (f σ M).bind fun x M1 => if bmOk b x M1 then (g σ M1).bind fun ds M2 => bmD m b x ds M2 else .bad) := by
  subst k2
  have go : ∀ (id : String), PlainAttrs (kindT (bmK b)) → Slot (kindT (bmK b)) (bmName b) id → typeOf (.builtin id) = pure (.type "method_descriptor") → MtR X id (rVm c (bmD m b)) → PE X (.Call (.Attribute o (bmName b) apos) xs [] pos) (tE c W fun σ M => (f σ M).bind fun x M1 => if bmOk b x M1 then (g σ M1).bind fun ds M2 => bmD m b x ds M2 else .bad) := by
    intro id pa sl ty mt
    cases xs with
    | nil =>
      rw [h0 rfl]
      exact l_bm0 h.K pa sl ty mt ho hb hl
    | cons y ys =>
      rw [List.all_cons, Bool.and_eq_true] at hs
      exact l_bm h.K pa sl ty mt ho ha hb hl hs.1 hs.2 (by simp at hlen; omega)
  cases b with
  | append => exact go "list.append" PySem.F.plainAttrs_list PySem.F.slot_list_append PySem.F.type_list_append m_append
  | extend => exact go "list.extend" PySem.F.plainAttrs_list PySem.F.slot_list_extend PySem.F.type_list_extend m_extend
  | pop => exact go "list.pop" PySem.F.plainAttrs_list PySem.F.slot_list_pop PySem.F.type_list_pop m_pop
  | reverse => exact go "list.reverse" PySem.F.plainAttrs_list PySem.F.slot_list_reverse PySem.F.type_list_reverse m_reverse
  | clear => exact go "list.clear" PySem.F.plainAttrs_list PySem.F.slot_list_clear PySem.F.type_list_clear m_clear
  | join => exact go "str.join" PySem.F.plainAttrs_str PySem.F.slot_str_join PySem.F.type_str_join (m_join h.K)
  | starts3 => exact go "str.startswith" PySem.F.plainAttrs_str PySem.F.slot_str_startswith PySem.F.type_str_startswith m_starts3
  | split => exact go "str.split" PySem.F.plainAttrs_str PySem.F.slot_str_split PySem.F.type_str_split (m_split m)
  | bitlen => exact go "int.bit_length" PySem.F.plainAttrs_int PyProof.Rows.slot_int_bit_length PyProof.Rows.type_int_bit_length m_bitlen
  | get1 => exact go "dict.get" PySem.F.plainAttrs_dict PySem.F.slot_dict_get PySem.F.type_dict_get (m_get1 h.K h.un)
  | dpop => exact go "dict.pop" PySem.F.plainAttrs_dict PySem.F.slot_dict_pop PySem.F.type_dict_pop m_dpop
  | setdefault => exact go "dict.setdefault" PySem.F.plainAttrs_dict PySem.F.slot_dict_setdefault PySem.F.type_dict_setdefault (m_setdef h.K h.un)
  | update => exact go "dict.update" PySem.F.plainAttrs_dict PySem.F.slot_dict_update PySem.F.type_dict_update (m_update h.K h.un)
  | dclear => exact go "dict.clear" PySem.F.plainAttrs_dict PySem.F.slot_dict_clear PySem.F.type_dict_clear m_dclear
  | tindex => exact go "tuple.index" PySem.F.plainAttrs_tuple PySem.F.slot_tuple_index PySem.F.type_tuple_index (m_tindex h.K)
  | index => exact go "list.index" PySem.F.plainAttrs_list PySem.F.slot_list_index PySem.F.type_list_index (m_index h.K h.un)
  | _ => simp [bmDone] at k4
theorem it_ok (h : XOk c tb Φ lvl CX N sc fb W X) {k : ItK} {tg iter : Expr} {xs : List Expr} {its : List E} (e : itArgs tb sc k tg iter = some xs) (ha : PA X xs (tL c W (evL tb.P Φ its))) (hs : xs.all notStar = true)
    (hp : Paired (fun a x => PE X x (tE c W (evE tb.P Φ a))) its xs) : PI X tg iter (tI c W k (evL tb.P Φ its)) := by
  cases k with
  | seq =>
    simp only [itArgs] at e
    split at e
    · cases e
      obtain ⟨a, rfl, h1⟩ : ∃ a, its = [a] ∧ PE X iter (tE c W (evE tb.P Φ a)) := by
        cases hp with
        | cons h1 h2 => cases h2; exact ⟨_, rfl, h1⟩
      have e2 : evL tb.P Φ [a] = fun σ M => (evE tb.P Φ a σ M).bind fun x M1 => .ok [x] M1 := by
        funext σ M
        simp only [evL]
        rfl
      rw [e2]
      exact i_seq h.K h1
    · cases e
  | tupc =>
    simp only [itArgs] at e
    split at e
    · cases e
      obtain ⟨a, rfl, h1⟩ : ∃ a, its = [a] ∧ PE X iter (tE c W (evE tb.P Φ a)) := by
        cases hp with
        | cons h1 h2 => cases h2; exact ⟨_, rfl, h1⟩
      have e2 : evL tb.P Φ [a] = fun σ M => (evE tb.P Φ a σ M).bind fun x M1 => .ok [x] M1 := by
        funext σ M
        simp only [evL]
        rfl
      rw [e2]
      exact i_tupc h.K h1
    · cases e
  | rng1 =>
    simp only [itArgs] at e
    split at e
    · split at e
      · rename_i hc
        cases e
        simp only [Bool.and_eq_true, decide_eq_true_eq] at hc
        obtain ⟨⟨rfl, c2⟩, c3⟩ := hc
        simp only [List.all_cons, Bool.and_eq_true] at hs
        exact i_rng1 (h.gl c2) (h.bi _ c3) ha hs.1
      · cases e
    · cases e
  | rng2 =>
    simp only [itArgs] at e
    split at e
    · split at e
      · rename_i hc
        cases e
        simp only [Bool.and_eq_true, decide_eq_true_eq] at hc
        obtain ⟨⟨rfl, c2⟩, c3⟩ := hc
        simp only [List.all_cons, Bool.and_eq_true] at hs
        exact i_rng2 (h.gl c2) (h.bi _ c3) ha hs.1 hs.2.1
      · cases e
    · cases e
  | rng3 =>
    simp only [itArgs] at e
    split at e
    · split at e
      · rename_i hc
        cases e
        simp only [Bool.and_eq_true, decide_eq_true_eq] at hc
        obtain ⟨⟨rfl, c2⟩, c3⟩ := hc
        rw [List.all_cons, Bool.and_eq_true] at hs
        exact i_rng3 (h.gl c2) (h.bi _ c3) ha hs.1 hs.2
      · cases e
    · cases e
  | enum =>
    simp only [itArgs] at e
    split at e
    · split at e
      · rename_i hc
        cases e
        simp only [Bool.and_eq_true, decide_eq_true_eq] at hc
        obtain ⟨⟨⟨rfl, c2⟩, c3⟩, c4⟩ := hc
        simp only [List.all_cons, Bool.and_eq_true] at hs
        cases tg with
        | Tuple es kk p => exact i_enum h.K (h.gl c2) (h.bi _ c3) ha hs.1
        | _ => simp [isTup] at c4
      · cases e
    · cases e
  | zip =>
    simp only [itArgs] at e
    split at e
    · split at e
      · rename_i hc
        cases e
        simp only [Bool.and_eq_true, decide_eq_true_eq] at hc
        obtain ⟨⟨⟨rfl, c2⟩, c3⟩, c4⟩ := hc
        rw [List.all_cons, Bool.and_eq_true] at hs
        cases tg with
        | Tuple es kk p => exact i_zip h.K (h.gl c2) (h.bi _ c3) ha hs.1 hs.2
        | _ => simp [isTup] at c4
      · cases e
    · cases e
theorem l_call0 {pu : Bool} {n : Nat} {k : Nat} {f : Addr} {fd : FuncData} {ps : List Str} {x : Str} {p pos : Pos} (F : FnOk X.prog X.w X.K X.mg X.base CX k f fd ps (spF c Φ n)) (hr : Room k X.A) (hg : Gl X x) (hm : X.mg x = some (.ref f)) (hk : PySem.W.keepIn X.K (.ref f) = true) (hb : Binds X.K fd ps [])
    (hx : ∀ τ, PassesAt CX X τ (fun cls d H' => W cls d τ H')) (hdb : (x == ("__debug__" : Str)) = false) : PE X (.Call (.Name x p) [] [] pos) (tE c W (callE Φ pu n fun _ M => .ok [] M)) :=
  (pe_callS0 F hr hg hm hk hb hx hdb).weak fun τ H Q h => by
    obtain ⟨w, M, σ, S, RS, z⟩ := call_of h
    exact z w H [] Stp.refl S RepL.nil
theorem l_call0A {n : Nat} {k : Nat} {f : Addr} {fd : FuncData} {ps : List Str} {x : Str} {p pos : Pos} (F : FnOk X.prog X.w X.K X.mg X.base CX k f fd ps (spF c Φ n)) (hr : Room k X.A) (hg : Gl X x) (hm : X.mg x = some (.ref f)) (hk : PySem.W.keepIn X.K (.ref f) = true) (hb : Binds X.K fd ps [])
    (hx : ∀ τ, PassesAt CX X τ (fun cls d H' => W cls d τ H')) (hdb : (x == ("__debug__" : Str)) = false) : PE X (.Call (.Name x p) [] [] pos) (tE c W (callAE Φ n fun _ M => .ok [] M)) :=
  (pe_callS0 F hr hg hm hk hb hx hdb).weak fun τ H Q h => by
    obtain ⟨w, M, σ, S, RS, z⟩ := callA_of h
    exact z w H [] Stp.refl S RepL.nil
theorem l_call0S {n : Nat} {k : Nat} {f : Addr} {fd : FuncData} {ps : List Str} {x : Str} {p pos : Pos} (F : FnOk X.prog X.w X.K X.mg X.base CX k f fd ps (spF c Φ n)) (hr : Room k X.A) (hg : Gl X x) (hm : X.mg x = some (.ref f)) (hk : PySem.W.keepIn X.K (.ref f) = true) (hb : Binds X.K fd ps [])
    (hx : ∀ τ, PassesAt CX X τ (fun cls d H' => W cls d τ H')) (hdb : (x == ("__debug__" : Str)) = false) : PE X (.Call (.Name x p) [] [] pos) (tE c W (callSE Φ n fun _ M => .ok [] M)) :=
  (pe_callS0 F hr hg hm hk hb hx hdb).weak fun τ H Q h => by
    obtain ⟨w, M, σ, S, RS, z⟩ := callS_of h
    exact z w H [] Stp.refl S RepL.nil
theorem orNil {r : List Expr} {q : Expr} {pos : Pos} {op : PySem.BoolOp} {f : Sl → Hh → Out D} (h : PE X (match r with | [] => q | _ => .BoolOp op (q :: r) pos) (tE c W f)) : PE X (.BoolOp op (q :: r) pos) (tE c W f) := by
  cases r with
  | nil => exact pe_one h
  | cons _ _ => exact h
theorem andNilT {r : List Expr} {q : Expr} {pos : Pos} {f : Sl → Hh → Out D} (h : PT X (match r with | [] => q | _ => .BoolOp .And (q :: r) pos) (tT c W f)) : PW X (.BoolOp .And (q :: r) pos) (tT c W f) := by
  cases r with
  | nil => exact pw_and1 h
  | cons _ _ => exact pw_of_pt h
theorem orNilT {r : List Expr} {q : Expr} {pos : Pos} {f : Sl → Hh → Out D} (h : PT X (match r with | [] => q | _ => .BoolOp .Or (q :: r) pos) (tT c W f)) : PW X (.BoolOp .Or (q :: r) pos) (tT c W f) := by
  cases r with
  | nil => exact pw_or1 h
  | cons _ _ => exact pw_of_pt h
end
section
variable {c : Ct} {tb : Tb} {Φ : Orc} {lvl : Nat} {CX : CXT}
abbrev SdE (c : Ct) (tb : Tb) (Φ : Orc) (W : WX) (X : Cx) (e : E) (x : Expr) : Prop := PE X x (tE c W (evE tb.P Φ e)) ∧ (tst e = true → PT X x (tT c W (evE tb.P Φ e)))
abbrev SdL (c : Ct) (tb : Tb) (Φ : Orc) (W : WX) (X : Cx) (es : List E) (xs : List Expr) : Prop := PA X xs (tL c W (evL tb.P Φ es)) ∧ xs.all notStar = true ∧ Paired (fun a x => PE X x (tE c W (evE tb.P Φ a))) es xs
theorem sdE_plain {W : WX} {X : Cx} {e : E} {x : Expr} {f : Sl → Hh → Out D} (ef : evE tb.P Φ e = f) (h : PE X x (tE c W f)) (ht : plainTest x = true) : SdE c tb Φ W X e x := by
  unfold SdE
  rw [ef]
  exact ⟨h, fun _ => pt_E h ht⟩
theorem evL_evs : ∀ (es : List E) (σ : Sl) (M : Hh), evL tb.P Φ es σ M = evs (es.map (evE tb.P Φ)) σ M
  | [], _, _ => by simp only [evL, evs, List.map_nil]
  | e :: es, σ, M => by
    simp only [evL, evs, List.map_cons]
    congr 1
    funext x M1
    rw [evL_evs es σ M1]
theorem keyE_ok {X : Cx} : ∀ {ks : List D} {keys : List (Option Expr)}, chkKeys ks keys = true → ∃ vl, Paired (fun k v => ∃ e, k = some e ∧ PE X e (tC v)) keys vl ∧ (∀ w H, RepL c w H ks vl) ∧ ∀ d ∈ ks, key1 d = true
  | [], [], _ => ⟨[], .nil, fun _ _ => RepL.nil, by simp⟩
  | [], _ :: _, h => by simp [chkKeys] at h
  | _ :: _, [], h => by simp [chkKeys] at h
  | d :: ds, k :: keys, h => by
    unfold chkKeys at h
    split at h
    · rename_i e _ ; cases e
    · rename_i d0 ds0 k0 j0 p0 ks0 e1 e2
      cases e1
      cases e2
      simp only [Bool.and_eq_true] at h
      obtain ⟨⟨h1, h2⟩, h3⟩ := h
      obtain ⟨vl, i1, i2, i3⟩ := keyE_ok h3
      obtain ⟨v, g1, g2⟩ := lit_ok (c := c) (X := X) (j := j0) (pos := p0) h1
      exact ⟨v :: vl, .cons ⟨_, rfl, g1⟩ i1, fun w H => RepL.cons (g2 w H) (i2 w H), fun x hx => (List.mem_cons.mp hx).elim (fun z => by rw [z]; exact h2) (i3 x)⟩
    · cases h
theorem var_ok {N : List Str} {sc : Scope} {fb : Bool} {W : WX} {X : Cx} {i : Nat} {x : Expr} (h : XOk c tb Φ lvl CX N sc fb W X) (k : chkVar N sc i x = true) : PE X x (tE c W (evE tb.P Φ (.var i))) ∧ ∀ σ d M, σ[i]? = some (some d) → evE tb.P Φ (.var i) σ M = .ok d M := by
  cases x with
  | Name x pos =>
    simp only [chkVar, Bool.and_eq_true, decide_eq_true_eq] at k
    obtain ⟨d1, d2, d3⟩ := plain_dbg k.2
    exact ⟨l_var (i := i) (fun σ M => by simp only [evE] <;> rfl) (by rw [h.st.hN]; exact k.1.1) (h.vis k.1.2) d1 d2, fun σ d M e => by simp only [evE, e]⟩
  | _ => simp [chkVar] at k
mutual
theorem soundE : ∀ (e : E) {N : List Str} {sc : Scope} {fb : Bool} {W : WX} {X : Cx} {x : Expr}, XOk c tb Φ lvl CX N sc fb W X → chkE tb N sc e x = true → SdE c tb Φ W X e x
  | .var i, N, sc, fb, W, X, x, h, k => by
    cases x with
    | Name x pos =>
      simp only [chkE, Bool.and_eq_true, decide_eq_true_eq] at k
      obtain ⟨d1, d2, d3⟩ := plain_dbg k.2
      exact sdE_plain (f := evE tb.P Φ (.var i)) rfl (l_var (i := i) (fun σ M => by simp only [evE] <;> rfl) (by rw [h.st.hN]; exact k.1.1) (h.vis k.1.2) d1 d2) rfl
    | _ => simp [chkE] at k
  | .lit d, N, sc, fb, W, X, x, h, k => by
    cases x with
    | Constant kk j pos =>
      simp only [chkE] at k
      obtain ⟨v, h1, h2⟩ := lit_ok (c := c) (X := X) (j := j) (pos := pos) k
      exact sdE_plain (f := fun _ M => .ok d M) (by funext σ M; simp only [evE]) (l_lit h1 h2) rfl
    | _ => simp [chkE] at k
  | .glo i, N, sc, fb, W, X, x, h, k => by
    cases x with
    | Name x pos =>
      simp only [chkE, Bool.and_eq_true, decide_eq_true_eq] at k
      obtain ⟨d1, d2, d3⟩ := plain_dbg k.2
      obtain ⟨u, hm, r⟩ := h.con x i k.1.2
      exact sdE_plain (f := evE tb.P Φ (.glo i)) rfl (l_glo (k := i) (fun σ M => by simp only [evE] <;> rw [h.gle] <;> rfl) (h.gl k.1.1) hm r d1) rfl
    | _ => simp [chkE] at k
  | .bin m op a b, N, sc, fb, W, X, x, h, k => by
    cases x with
    | BinOp p o q pos =>
      simp only [chkE, Bool.and_eq_true] at k
      have := op_ok k.1.1
      subst this
      exact sdE_plain (by funext σ M; simp only [evE]) (l_two (op_bin h.K m op) (soundE a h k.1.2).1 (soundE b h k.2).1) rfl
    | _ => simp [chkE] at k
  | .neg a, N, sc, fb, W, X, x, h, k => by
    cases x with
    | UnaryOp o p pos =>
      cases o with
      | USub =>
        simp only [chkE] at k
        exact sdE_plain (by funext σ M; simp only [evE]) (l_neg (soundE a h k).1) rfl
      | _ => simp [chkE] at k
    | _ => simp [chkE] at k
  | .not a, N, sc, fb, W, X, x, h, k => by
    cases x with
    | UnaryOp o p pos =>
      cases o with
      | Not =>
        simp only [chkE] at k
        have z := soundE a h k
        have e : evE tb.P Φ (.not a) = fun σ M => (evE tb.P Φ a σ M).bind notD := by funext σ M; simp only [evE]
        unfold SdE
        rw [e]
        exact ⟨l_not z.1, fun t => l_notT (z.2 t)⟩
      | _ => simp [chkE] at k
    | _ => simp [chkE] at k
  | .cmp op a b, N, sc, fb, W, X, x, h, k => by
    cases x with
    | Compare p os qs pos =>
      rcases os with _ | ⟨o, _ | ⟨_, _⟩⟩
      · simp [chkE] at k
      · rcases qs with _ | ⟨q, _ | ⟨_, _⟩⟩
        · simp [chkE] at k
        · simp only [chkE, Bool.and_eq_true, beq_iff_eq] at k
          obtain ⟨⟨⟨rfl, k2⟩, k3⟩, k4⟩ := k
          have e : evE tb.P Φ (.cmp op a b) = fun σ M => (evE tb.P Φ a σ M).bind fun x M1 => (evE tb.P Φ b σ M1).bind fun y M2 => outB (cmpD op x y M2) M2 := by funext σ M; simp only [evE]
          unfold SdE
          rw [e]
          exact ⟨l_cmp (op_cmp h.K h.un op) (soundE a h k2).1 (soundE b h k3).1 (nomarks k4), fun _ => l_cmpT (op_cmp h.K h.un op) (soundE a h k2).1 (soundE b h k3).1 (nomarks k4)⟩
        · simp [chkE] at k
      · simp [chkE] at k
    | _ => simp [chkE] at k
  | .cmp2 o1 o2 a b d, N, sc, fb, W, X, x, h, k => by
    cases x with
    | Compare p os qs pos =>
      rcases os with _ | ⟨u, _ | ⟨v, _ | ⟨_, _⟩⟩⟩
      · simp [chkE] at k
      · simp [chkE] at k
      · rcases qs with _ | ⟨q, _ | ⟨r, _ | ⟨_, _⟩⟩⟩
        · simp [chkE] at k
        · simp [chkE] at k
        · simp only [chkE, Bool.and_eq_true, beq_iff_eq] at k
          obtain ⟨⟨⟨⟨⟨rfl, rfl⟩, k2⟩, k3⟩, k4⟩, k5⟩ := k
          have e : evE tb.P Φ (.cmp2 o1 o2 a b d) = fun σ M => (evE tb.P Φ a σ M).bind fun x M1 => (evE tb.P Φ b σ M1).bind fun y M2 => (outB (cmpD o1 x y M2) M2).bind fun b _ => ifB b .bad ((evE tb.P Φ d σ M2).bind fun z M3 => outB (cmpD o2 y z M3) M3) (.ok (.bl false) M2) := by funext σ M; simp only [evE]
          unfold SdE
          rw [e]
          have lm : lastMarks [pyCop o1, pyCop o2] [q, r] = false := nomarks (o := pyCop o2) k5
          exact ⟨l_chain (op_cmp h.K h.un o1) (op_cmp h.K h.un o2) (soundE a h k2).1 (soundE b h k3).1 (soundE d h k4).1 lm, fun _ => l_chainT (op_cmp h.K h.un o1) (op_cmp h.K h.un o2) (soundE a h k2).1 (soundE b h k3).1 (soundE d h k4).1 lm⟩
        · simp [chkE] at k
      · simp [chkE] at k
    | _ => simp [chkE] at k
  | .and a b, N, sc, fb, W, X, x, h, k => by
    cases x with
    | BoolOp o vs pos =>
      cases o with
      | Or => simp [chkE] at k
      | And =>
        rcases vs with _ | ⟨p, _ | ⟨q, r⟩⟩
        · simp [chkE] at k
        · simp [chkE] at k
        · simp only [chkE, Bool.and_eq_true] at k
          have z1 := soundE a h k.1
          have z2 := soundE b h k.2
          have e : evE tb.P Φ (.and a b) = fun σ M => (evE tb.P Φ a σ M).bind fun x M1 => ifB x .bad (evE tb.P Φ b σ M1) (.ok (.bl false) M1) := by funext σ M; simp only [evE]
          unfold SdE
          rw [e]
          refine ⟨l_and z1.1 (orNil z2.1), fun t => ?_⟩
          simp only [tst, Bool.and_eq_true] at t
          exact (l_andT (z1.2 t.1) (andNilT (z2.2 t.2))).pt
    | _ => simp [chkE] at k
  | .or a b, N, sc, fb, W, X, x, h, k => by
    cases x with
    | BoolOp o vs pos =>
      cases o with
      | And => simp [chkE] at k
      | Or =>
        rcases vs with _ | ⟨p, _ | ⟨q, r⟩⟩
        · simp [chkE] at k
        · simp [chkE] at k
        · simp only [chkE, Bool.and_eq_true] at k
          have z1 := soundE a h k.1
          have z2 := soundE b h k.2
          have e : evE tb.P Φ (.or a b) = fun σ M => (evE tb.P Φ a σ M).bind fun x M1 => ifB x .bad (.ok (.bl true) M1) (evE tb.P Φ b σ M1) := by funext σ M; simp only [evE]
          unfold SdE
          rw [e]
          refine ⟨l_or z1.1 (orNil z2.1), fun t => ?_⟩
          simp only [tst, Bool.and_eq_true] at t
          exact (l_orT (z1.2 t.1) (orNilT (z2.2 t.2))).pt
    | _ => simp [chkE] at k
  | .ite d a b, N, sc, fb, W, X, x, h, k => by
    cases x with
    | IfExp r p q pos =>
      simp only [chkE, Bool.and_eq_true] at k
      have e : evE tb.P Φ (.ite d a b) = fun σ M => (evE tb.P Φ d σ M).bind fun x M1 => ifB x .bad (evE tb.P Φ a σ M1) (evE tb.P Φ b σ M1) := by funext σ M; simp only [evE]
      unfold SdE
      rw [e]
      exact ⟨l_ite ((soundE d h k.1.1.1).2 k.1.1.2) (soundE a h k.1.2).1 (soundE b h k.2).1, fun t => by simp [tst] at t⟩
    | _ => simp [chkE] at k
  | .tup es, N, sc, fb, W, X, x, h, k => by
    cases x with
    | Tuple xs kk pos =>
      simp only [chkE, Bool.and_eq_true, decide_eq_true_eq] at k
      exact sdE_plain (by funext σ M; simp only [evE]) (l_tup (soundL es h k.1).1 (evL_len tb.P es) k.2) rfl
    | _ => simp [chkE] at k
  | .lst m es, N, sc, fb, W, X, x, h, k => by
    cases x with
    | List xs pos =>
      simp only [chkE, Bool.and_eq_true, decide_eq_true_eq] at k
      exact sdE_plain (by funext σ M; simp only [evE]) (l_lst (m := m) (soundL es h k.1).1 (evL_len tb.P es) k.2) rfl
    | _ => simp [chkE] at k
  | .idx a b, N, sc, fb, W, X, x, h, k => by
    cases x with
    | Subscript p q pos =>
      simp only [chkE, Bool.and_eq_true] at k
      exact sdE_plain (by funext σ M; simp only [evE]) (l_idx (op_idx h.K h.un) (soundE a h k.1.1).1 (soundE b h k.1.2).1 k.2) rfl
    | _ => simp [chkE] at k
  | .sl m a lo hi, N, sc, fb, W, X, x, h, k => by
    cases x with
    | Subscript p q pos =>
      cases q with
      | Slice l hh st p2 =>
        cases st with
        | some _ => simp [chkE] at k
        | none =>
          simp only [chkE, Bool.and_eq_true] at k
          refine sdE_plain (by funext σ M; simp only [evE]) (l_sl (a := lo) (b := hi) (m := m) h.K (soundE a h k.1.1).1 (g := evE tb.P Φ lo) (p := evE tb.P Φ hi) ?_ ?_) rfl
          · cases l with
            | none =>
              have z := k.1.2
              simp only at z
              refine ⟨z, ?_⟩
              unfold isLN at z
              split at z
              · funext σ M; simp only [evE]
              · cases z
            | some l =>
              have z := k.1.2
              simp only [Bool.and_eq_true, Bool.not_eq_true'] at z
              exact ⟨z.1, (soundE lo h z.2).1⟩
          · cases hh with
            | none =>
              have z := k.2
              simp only at z
              refine ⟨z, ?_⟩
              unfold isLN at z
              split at z
              · funext σ M; simp only [evE]
              · cases z
            | some l =>
              have z := k.2
              simp only [Bool.and_eq_true, Bool.not_eq_true'] at z
              exact ⟨z.1, (soundE hi h z.2).1⟩
      | _ => simp [chkE] at k
    | _ => simp [chkE] at k
  | .call p f es, N, sc, fb, W, X, x, h, k => by
    cases x with
    | Call fe xs ks pos =>
      cases fe with
      | Name x px =>
        cases ks with
        | cons _ _ => simp [chkE] at k
        | nil =>
          simp only [chkE, Bool.and_eq_true] at k
          obtain ⟨⟨⟨k1, k2⟩, k3⟩, k4⟩ := k
          obtain ⟨d1, d2, d3⟩ := plain_dbg k3
          obtain ⟨a, fd, ps, hm, hk, hb, F⟩ := h.fn x f (hasFn_mem k2)
          have z := soundL es h k4
          have e : evE tb.P Φ (.call p f es) = callE Φ p f (evL tb.P Φ es) := by funext σ M; simp only [evE] <;> rfl
          refine sdE_plain e ?_ rfl
          cases xs with
          | nil =>
            have : es = [] := by cases es with | nil => rfl | cons _ _ => simp [chkL] at k4
            subst this
            have e2 : evL tb.P Φ [] = fun _ M => .ok [] M := by funext σ M; simp only [evL]
            rw [e2]
            exact l_call0 F (h.room.mono (Nat.le_succ _)) (h.gl k1) hm hk hb h.pass d1
          | cons y ys => exact l_call F (h.room.mono (Nat.le_succ _)) (h.gl k1) hm hk hb h.pass z.1 z.2.1 (by simp) d1
      | _ => simp [chkE] at k
    | _ => simp [chkE] at k
  | .callA f es, N, sc, fb, W, X, x, h, k => by
    cases x with
    | Call fe xs ks pos =>
      cases fe with
      | Name x px =>
        cases ks with
        | cons _ _ => simp [chkE] at k
        | nil =>
          simp only [chkE, Bool.and_eq_true] at k
          obtain ⟨⟨⟨k1, k2⟩, k3⟩, k4⟩ := k
          obtain ⟨d1, d2, d3⟩ := plain_dbg k3
          obtain ⟨a, fd, ps, hm, hk, hb, F⟩ := h.fn x f (hasFn_mem k2)
          have z := soundL es h k4
          have e : evE tb.P Φ (.callA f es) = callAE Φ f (evL tb.P Φ es) := by funext σ M; simp only [evE] <;> rfl
          refine sdE_plain e ?_ rfl
          cases xs with
          | nil =>
            have : es = [] := by cases es with | nil => rfl | cons _ _ => simp [chkL] at k4
            subst this
            have e2 : evL tb.P Φ [] = fun _ M => .ok [] M := by funext σ M; simp only [evL]
            rw [e2]
            exact l_call0A F (h.room.mono (Nat.le_succ _)) (h.gl k1) hm hk hb h.pass d1
          | cons y ys => exact l_callG F (h.room.mono (Nat.le_succ _)) (h.gl k1) hm hk hb h.pass z.1 z.2.1 (by simp) d1 (fun _ _ _ h => callA_of h)
      | _ => simp [chkE] at k
    | _ => simp [chkE] at k
  | .callS f es, N, sc, fb, W, X, x, h, k => by
    cases x with
    | Call fe xs ks pos =>
      cases fe with
      | Name x px =>
        cases ks with
        | cons _ _ => simp [chkE] at k
        | nil =>
          simp only [chkE, Bool.and_eq_true] at k
          obtain ⟨⟨⟨k1, k2⟩, k3⟩, k4⟩ := k
          obtain ⟨d1, d2, d3⟩ := plain_dbg k3
          obtain ⟨a, fd, ps, hm, hk, hb, F⟩ := h.fn x f (hasFn_mem k2)
          have z := soundL es h k4
          have e : evE tb.P Φ (.callS f es) = callSE Φ f (evL tb.P Φ es) := by funext σ M; simp only [evE] <;> rfl
          refine sdE_plain e ?_ rfl
          cases xs with
          | nil =>
            have : es = [] := by cases es with | nil => rfl | cons _ _ => simp [chkL] at k4
            subst this
            have e2 : evL tb.P Φ [] = fun _ M => .ok [] M := by funext σ M; simp only [evL]
            rw [e2]
            exact l_call0S F (h.room.mono (Nat.le_succ _)) (h.gl k1) hm hk hb h.pass d1
          | cons y ys => exact l_callG F (h.room.mono (Nat.le_succ _)) (h.gl k1) hm hk hb h.pass z.1 z.2.1 (by simp) d1 (fun _ _ _ h => callS_of h)
      | _ => simp [chkE] at k
    | _ => simp [chkE] at k
  | .new i es, N, sc, fb, W, X, x, h, k => by
    cases x with
    | Call fe xs ks pos =>
      cases fe with
      | Name x px =>
        cases ks with
        | cons _ _ => simp [chkE] at k
        | nil =>
          simp only [chkE, Bool.and_eq_true, decide_eq_true_eq] at k
          obtain ⟨⟨⟨⟨k1, k2⟩, k3⟩, k4⟩, k5⟩ := k
          obtain ⟨d1, d2, d3⟩ := plain_dbg k3
          have z := soundL es h k5
          have e : evE tb.P Φ (.new i es) = newE tb.P Φ i (evL tb.P Φ es) := by funext σ M; simp only [evE] <;> rfl
          refine sdE_plain e (l_new h.K h.ob h.room (h.gl k1) k2 k4 z.1 z.2.1 (fun e => ?_) h.cxF d1) rfl
          subst e
          have : es = [] := by cases es with | nil => rfl | cons _ _ => simp [chkL] at k5
          subst this
          funext σ M; simp only [evL]
      | _ => simp [chkE] at k
    | _ => simp [chkE] at k
  | .meth i o es, N, sc, fb, W, X, x, h, k => by
    cases x with
    | Call fe xs ks pos =>
      cases fe with
      | Attribute p n apos =>
        cases ks with
        | cons _ _ => simp [chkE] at k
        | nil =>
          simp only [chkE, Bool.and_eq_true, decide_eq_true_eq] at k
          obtain ⟨⟨⟨⟨⟨k1, k2⟩, k3⟩, k4⟩, k5⟩, k6⟩ := k
          have z := soundL es h k5
          have e : evE tb.P Φ (.meth i o es) = methE tb.P Φ i (evE tb.P Φ o) (evL tb.P Φ es) := by funext σ M; simp only [evE] <;> rfl
          refine sdE_plain e (l_meth h.K h.ob (h.room.mono (Nat.le_succ _)) k1 (soundE o h k4).1 z.1 k3 k2 z.2.1 k6 (fun e => ?_) h.pass) rfl
          subst e
          have : es = [] := by cases es with | nil => rfl | cons _ _ => simp [chkL] at k5
          subst this
          funext σ M; simp only [evL]
      | _ => simp [chkE] at k
    | _ => simp [chkE] at k
  | .bi m b es, N, sc, fb, W, X, x, h, k => by
    cases x with
    | Call fe xs ks pos =>
      cases fe with
      | Name x px =>
        cases ks with
        | cons _ _ => simp [chkE] at k
        | nil =>
          cases xs with
          | nil => simp [chkE] at k
          | cons y ys =>
            simp only [chkE, Bool.and_eq_true, decide_eq_true_eq] at k
            obtain ⟨⟨⟨⟨k1, k2⟩, k3⟩, k4⟩, k5⟩ := k
            have z := soundL es h k5
            exact sdE_plain (by funext σ M; simp only [evE]) (bi_ok h (m := m) k1 k2 k3 k4 z.1 z.2.1) rfl
      | _ => simp [chkE] at k
    | _ => simp [chkE] at k
  | .bm m b o es, N, sc, fb, W, X, x, h, k => by
    cases x with
    | Call fe xs ks pos =>
      cases fe with
      | Attribute p n apos =>
        cases ks with
        | cons _ _ => simp [chkE] at k
        | nil =>
          simp only [chkE, Bool.and_eq_true, decide_eq_true_eq] at k
          obtain ⟨⟨⟨⟨⟨⟨k1, k2⟩, k3⟩, k4⟩, k5⟩, k6⟩, k7⟩ := k
          have z := soundL es h k6
          refine sdE_plain (by funext σ M; simp only [evE]) (bm_ok h (m := m) k1 k2 k4 k3 k7 (soundE o h k5).1 z.1 z.2.1 fun e => ?_) rfl
          subst e
          have : es = [] := by cases es with | nil => rfl | cons _ _ => simp [chkL] at k6
          subst this
          funext σ M; simp only [evL]
      | _ => simp [chkE] at k
    | _ => simp [chkE] at k
  | .attr o f, N, sc, fb, W, X, x, h, k => by
    cases x with
    | Attribute p n pos =>
      simp only [chkE, Bool.and_eq_true, decide_eq_true_eq] at k
      obtain ⟨⟨k2, k3⟩, k4⟩ := k
      exact sdE_plain (by funext σ M; simp only [evE]) (l_attr (k := f) h.K h.kit h.ob k2 (soundE o h k4).1 k3) rfl
    | _ => simp [chkE] at k
  | .isi a ts, N, sc, fb, W, X, x, h, k => by
    cases x with
    | Call fe xs ks pos =>
      cases fe with
      | Name x px =>
        cases ks with
        | cons _ _ => rcases xs with _ | ⟨p, _ | ⟨q, _ | ⟨_, _⟩⟩⟩ <;> simp [chkE] at k
        | nil =>
          rcases xs with _ | ⟨p, _ | ⟨q, _ | ⟨_, _⟩⟩⟩
          · simp [chkE] at k
          · simp [chkE] at k
          · simp only [chkE, Bool.and_eq_true, decide_eq_true_eq] at k
            obtain ⟨⟨⟨⟨⟨⟨k1, k2⟩, k3⟩, k4⟩, k5⟩, k6⟩, k7⟩ := k
            subst k2
            have z := soundE a h k4
            refine sdE_plain (f := fun σ M => (evE tb.P Φ a σ M).bind fun x M1 => outB (isTys tb.P M1 x ts) M1) (by funext σ M; simp only [evE]) ?_ rfl
            have one : chkOne tb sc ts q = true → PE X (.Call (.Name "isinstance" px) [p, q] [] pos) (tE c W fun σ M => (evE tb.P Φ a σ M).bind fun x M1 => outB (isTys tb.P M1 x ts) M1) := by
              intro e
              unfold chkOne at e
              split at e
              · obtain ⟨a1, a2, a3⟩ := chkTy_ok h e
                exact l_isi1 h.K h.kit a1 (h.gl k1) (h.bi _ k3) z.1 a2 k5 k6
              · cases e
            cases q with
            | Tuple es kk p2 =>
              simp only [chkIsi, Bool.and_eq_true, decide_eq_true_eq] at k7
              obtain ⟨b1, b2⟩ := chkTys_ok h k7.2
              exact l_isiN h.K h.kit b1 k7.1.1 k7.1.2 (h.gl k1) (h.bi _ k3) z.1 b2 k5
            | _ => exact one (by simpa [chkIsi] using k7)
          · simp [chkE] at k
      | _ => rcases xs with _ | ⟨p, _ | ⟨q, _ | ⟨_, _⟩⟩⟩ <;> simp [chkE] at k
    | _ => simp [chkE] at k
  | .comp m tg kk its d e, N, sc, fb, W, X, x, h, k => by
    cases x with
    | ListComp y gs scope pos =>
      rcases gs with _ | ⟨⟨t, iter, ifs, asy⟩, _ | ⟨_, _⟩⟩
      · simp [chkE] at k
      · by_cases ha : asy = 0
        · subst ha
          unfold chkE at k; simp only [Bool.and_eq_true, decide_eq_true_eq] at k
          obtain ⟨⟨⟨⟨⟨⟨k1, k2⟩, k3⟩, k4⟩, k5⟩, k6⟩, k7⟩ := k
          split at k5
          · rename_i xs ei
            have z := soundL its h k5
            have pi := it_ok h ei z.1 z.2.1 z.2.2
            have hg : ∀ (s : Shared) (H : Hp) (C : Addr) (cl : List (Str × Addr)) (fp : List Addr), PG (X.blk s H scope (compEnvC scope cl C X.env) fp) t (tG c tg) := fun s H C cl fp =>
              (h.blk scope s H C cl fp).st.tg h.calm h.K k3
            have he : ∀ (s : Shared) (H : Hp) (C : Addr) (cl : List (Str × Addr)) (fp : List Addr), PE (X.blk s H scope (compEnvC scope cl C X.env) fp) y (tE c WF (evE tb.P Φ e)) := fun s H C cl fp =>
              (soundE e (h.blk scope s H C cl fp) k7).1
            have hnd : X.N.Nodup := by rw [h.st.hN]; exact h.st.nd
            have bk : BlkOk X.N X.env.scope scope (ownOf' tg t) := by rw [h.st.hN, h.st.sc]; exact blkOk_by k1
            have hs : ∀ x, foldedSetIterable iter X.env x = pure x := fun x => by cases iter <;> first | rfl | (simp [notSet] at k4)
            have go : ∀ (cf : Option (Sl → Hh → Out D)), (∀ (s : Shared) (H : Hp) (C : Addr) (cl : List (Str × Addr)) (fp : List Addr), PTs (X.blk s H scope (compEnvC scope cl C X.env) fp) ifs (tIfs c cf)) →
                evE tb.P Φ (.comp m tg kk its d e) = compE m tg kk (evL tb.P Φ its) cf (evE tb.P Φ e) → SdE c tb Φ W X (.comp m tg kk its d e) (.ListComp y [⟨t, iter, ifs, 0⟩] scope pos) := by
              intro cf ht ee
              refine sdE_plain ee ?_ rfl
              refine (pe_lc h.calm hnd pi bk hg ht he hs).weak fun τ H Q q => ?_
              rw [k2]
              exact comp_of q
            cases d with
            | none =>
              simp only [List.isEmpty_iff] at k6
              subst k6
              exact go none (fun s H C cl fp => pts_nil) (by funext σ M; simp only [evE] <;> rfl)
            | some d =>
              simp only at k6
              split at k6
              · rename_i zz
                rw [Bool.and_eq_true] at k6
                exact go (some (evE tb.P Φ d)) (fun s H C cl fp => pts_one ((soundE d (h.blk scope s H C cl fp) k6.1).2 k6.2)) (by funext σ M; simp only [evE] <;> rfl)
              · cases k6
          · cases k5
        · exfalso
          revert k
          unfold chkE
          split
          · rename_i e0; cases e0; exact absurd rfl ha
          · intro z; cases z
      · simp [chkE] at k
    | _ => simp [chkE] at k
  | .dict t ks vs, N, sc, fb, W, X, x, h, k => by
    cases x with
    | Dict keys values pos =>
      simp only [chkE, Bool.and_eq_true] at k
      exact sdE_plain (f := fun σ M => match dispE t ks vs with
        | some (ds, es) => .ok (.ref M.length) (M ++ [.dic t ds es])
        | none => .bad) (by funext σ M; simp only [evE] <;> rfl) (l_disp k) rfl
    | _ => simp [chkE] at k
  | .rev m a, N, sc, fb, W, X, x, h, k => by
    unfold chkE at k
    split at k
    · simp only [Bool.and_eq_true, decide_eq_true_eq] at k
      obtain ⟨rfl, k⟩ := k
      exact sdE_plain (by funext σ M; simp only [evE] <;> rfl) (l_rev (m := m) h.K (soundE a h k).1) rfl
    · cases k
  | .exv i es, N, sc, fb, W, X, x, h, k => by
    cases x with
    | Call fe xs ks pos =>
      cases fe with
      | Name x px =>
        cases ks with
        | cons _ _ => simp [chkE] at k
        | nil =>
          simp only [chkE, Bool.and_eq_true, Bool.or_eq_true, decide_eq_true_eq] at k
          obtain ⟨⟨⟨⟨⟨k1, k2⟩, k3⟩, k4⟩, k5⟩, k6⟩ := k
          obtain ⟨d1, d2, d3⟩ := plain_dbg k3
          have e : evE tb.P Φ (.exv i es) = fun σ M => (evL tb.P Φ es σ M).bind fun ds M1 => match ds with
              | [d] => if tb.P.ok i = true then .ok (.exc i [d]) M1 else .bad
              | _ => .bad := by funext σ M; simp only [evE] <;> rfl
          refine sdE_plain e ?_ rfl
          have hr2 := h.room.mono (j := 2) (by have := h.lv2; omega)
          rcases k6 with ⟨k6, k7⟩ | ⟨⟨k6, k7⟩, k8⟩
          · rcases xs with _ | ⟨y, _ | ⟨_, _⟩⟩
            · simp at k6
            · rcases es with _ | ⟨e1, _ | ⟨_, _⟩⟩
              · simp [chkL] at k7
              · simp only [chkL, Bool.and_eq_true] at k7
                have z := (soundE e1 h k7.1.1).1
                have e2 : (fun σ M => (evL tb.P Φ [e1] σ M).bind fun ds M1 => match ds with
                    | [d] => if tb.P.ok i = true then Out.ok (D.exc i [d]) M1 else .bad
                    | _ => .bad) = fun σ M => (evE tb.P Φ e1 σ M).bind fun d M1 => .ok (.exc i [d]) M1 := by
                  funext σ M
                  simp only [evL, bind_assoc, Out.bind_ok, k4, if_true]
                rw [e2]
                exact l_exv1 h.K h.rk k5 hr2 (h.gl k1) (h.cls x i k2) d1 z k7.1.2
              · simp [chkL] at k7
            · simp at k6
          · simp only [List.isEmpty_iff] at k7
            subst k7
            unfold isNonL at k6
            split at k6
            · have e2 : (fun (σ : Sl) (M : Hh) => (evL tb.P Φ [.lit .non] σ M).bind fun ds M1 => match ds with
                  | [d] => if tb.P.ok i = true then Out.ok (D.exc i [d]) M1 else .bad
                  | _ => .bad) = fun _ M => .ok (.exc i [.non]) M := by
                funext σ M
                simp only [evL, evE, Out.bind_ok, k4, if_true]
              rw [e2]
              exact l_exvD h.K h.rk k5 k8 hr2 (h.gl k1) (h.cls x i k2) d1
            · cases k6
      | _ => simp [chkE] at k
    | _ => simp [chkE] at k
  | .disp ks vs, N, sc, fb, W, X, x, h, k => by
    cases x with
    | Dict keys values pos =>
      simp only [chkE, Bool.and_eq_true, decide_eq_true_eq, Bool.not_eq_true'] at k
      obtain ⟨⟨⟨⟨k1, k2⟩, k3⟩, k4⟩, k5⟩ := k
      obtain ⟨vl, q1, q2, q3⟩ := keyE_ok (c := c) (X := X) k1
      have z := soundL vs h k2
      have e : evE tb.P Φ (.disp ks vs) = fun σ M => (evs (vs.map (evE tb.P Φ)) σ (M ++ [.dic .one [] []])).bind fun es M1 => dispD M.length ks es M1 := by
        funext σ M
        simp only [evE, evL_evs]
      refine sdE_plain e (l_disp2 q1 q2 q3 ?_ k3 (fun z => by subst z; simp at k4) k5) rfl
      clear e k3 k2
      have : ∀ {es : List E} {xs : List Expr}, Paired (fun a x => PE X x (tE c W (evE tb.P Φ a))) es xs → Paired (fun e f => PE X e (tE c W f)) xs (es.map (evE tb.P Φ)) := by
        intro es xs hp
        induction hp with
        | nil => exact .nil
        | cons h t ih => exact .cons h ih
      exact this z.2.2
    | _ => simp [chkE] at k
  | .lzip m a b, N, sc, fb, W, X, x, h, k => by
    unfold chkE at k
    split at k
    · simp only [Bool.and_eq_true, decide_eq_true_eq] at k
      obtain ⟨⟨⟨⟨⟨⟨⟨⟨⟨rfl, rfl⟩, k3⟩, k4⟩, k5⟩, k6⟩, k7⟩, k8⟩, k9⟩, k10⟩ := k
      exact sdE_plain (by funext σ M; simp only [evE]) (l_lzip (m := m) h.calm h.K (h.gl k3) (h.bi _ k5) (h.gl k4) (h.bi _ k6) (soundE a h k7).1 (soundE b h k8).1 k9 k10) rfl
    · cases k
  | .lens a, N, sc, fb, W, X, x, h, k => by
    unfold chkE at k
    split at k
    · simp only [Bool.and_eq_true, decide_eq_true_eq] at k
      obtain ⟨⟨⟨⟨⟨⟨⟨rfl, rfl⟩, k3⟩, k4⟩, k5⟩, k6⟩, k7⟩, k8⟩ := k
      exact sdE_plain (by funext σ M; simp only [evE]) (l_lenset h.calm h.un h.K (h.gl k3) (h.bi _ k5) (h.gl k4) (h.bi _ k6) (soundE a h k7).1 k8) rfl
    · cases k
  | .orv a b, N, sc, fb, W, X, x, h, k => by
    unfold chkE at k
    split at k
    · rw [Bool.and_eq_true] at k
      have e : evE tb.P Φ (.orv a b) = fun σ M => (evE tb.P Φ a σ M).bind fun x M1 => orD (truD M1 x) x M1 (evE tb.P Φ b σ M1) := by funext σ M; simp only [evE]
      unfold SdE
      rw [e]
      exact ⟨l_orv h.K (soundE a h k.1).1 (pe_one (soundE b h k.2).1), fun t => by simp [tst] at t⟩
    · cases k
  | .dzip a b, N, sc, fb, W, X, x, h, k => by
    unfold chkE at k
    split at k
    · simp only [Bool.and_eq_true, decide_eq_true_eq] at k
      obtain ⟨⟨⟨⟨⟨⟨⟨⟨⟨rfl, rfl⟩, k3⟩, k4⟩, k5⟩, k6⟩, k7⟩, k8⟩, k9⟩, k10⟩ := k
      exact sdE_plain (by funext σ M; simp only [evE]) (l_dzip h.calm h.K (h.gl k3) (h.bi _ k5) (h.gl k4) (h.bi _ k6) (soundE a h k7).1 (soundE b h k8).1 k9 k10) rfl
    · cases k
  | .compD m tg i d e, N, sc, fb, W, X, x, h, k => by
    cases x with
    | ListComp y gs scope pos =>
      rcases gs with _ | ⟨⟨t, iter, ifs, asy⟩, _ | ⟨_, _⟩⟩
      · simp [chkE] at k
      · by_cases ha : asy = 0
        · subst ha
          unfold chkE at k; simp only [Bool.and_eq_true, decide_eq_true_eq] at k
          obtain ⟨⟨⟨⟨⟨k1, k2⟩, k3⟩, k5⟩, k6⟩, k7⟩ := k
          have hv := var_ok (W := W) h k5
          have hg : ∀ (s : Shared) (H : Hp) (C : Addr) (cl : List (Str × Addr)) (fp : List Addr), PG (X.blk s H scope (compEnvC scope cl C X.env) fp) t (tG c tg) := fun s H C cl fp =>
            (h.blk scope s H C cl fp).st.tg h.calm h.K k3
          have he : ∀ (s : Shared) (H : Hp) (C : Addr) (cl : List (Str × Addr)) (fp : List Addr), PE (X.blk s H scope (compEnvC scope cl C X.env) fp) y (tE c WF (evE tb.P Φ e)) := fun s H C cl fp =>
            (soundE e (h.blk scope s H C cl fp) k7).1
          have hnd : X.N.Nodup := by rw [h.st.hN]; exact h.st.nd
          have bk : BlkOk X.N X.env.scope scope (ownOf' tg t) := by rw [h.st.hN, h.st.sc]; exact blkOk_by k1
          have hs : ∀ x, foldedSetIterable iter X.env x = pure x := fun x => by cases iter <;> first | rfl | (simp [chkVar] at k5)
          have go : ∀ (cf : Option (Sl → Hh → Out D)), (∀ (s : Shared) (H : Hp) (C : Addr) (cl : List (Str × Addr)) (fp : List Addr), PTs (X.blk s H scope (compEnvC scope cl C X.env) fp) ifs (tIfs c cf)) →
              evE tb.P Φ (.compD m tg i d e) = compDE m tg i cf (evE tb.P Φ e) → SdE c tb Φ W X (.compD m tg i d e) (.ListComp y [⟨t, iter, ifs, 0⟩] scope pos) := by
            intro cf ht ee
            refine sdE_plain ee ?_ rfl
            refine (pe_lock (pe_lc h.calm hnd (pi_keys hv.1) bk hg ht he hs)).weak fun τ H Q q => ?_
            rw [k2]
            exact compD_of hv.2 q
          cases d with
          | none =>
            simp only [List.isEmpty_iff] at k6
            subst k6
            exact go none (fun s H C cl fp => pts_nil) (by funext σ M; simp only [evE, compDE] <;> rfl)
          | some d =>
            simp only at k6
            split at k6
            · rename_i zz
              rw [Bool.and_eq_true] at k6
              exact go (some (evE tb.P Φ d)) (fun s H C cl fp => pts_one ((soundE d (h.blk scope s H C cl fp) k6.1).2 k6.2)) (by funext σ M; simp only [evE, compDE] <;> rfl)
            · cases k6
        · exfalso
          revert k
          unfold chkE
          split
          · rename_i e0; cases e0; exact absurd rfl ha
          · intro z; cases z
      · simp [chkE] at k
    | _ => simp [chkE] at k
  | .tupC es, N, sc, fb, W, X, x, h, k => by
    cases x with
    | Tuple xs kk pos =>
      simp only [chkE, Bool.and_eq_true, decide_eq_true_eq] at k
      exact sdE_plain (by funext σ M; simp only [evE]) (l_tupC (soundL es h k.1).1 fun σ M ds M' e => by rw [evL_len tb.P es σ M ds M' e, sizeLine_eq]; omega) rfl
    | _ => simp [chkE] at k
  | .idxL a b, N, sc, fb, W, X, x, h, k => by
    cases x with
    | Subscript p q pos =>
      simp only [chkE, Bool.and_eq_true] at k
      exact sdE_plain (by funext σ M; simp only [evE]) (l_idx (op_idxL h.K h.un) (soundE a h k.1.1).1 (soundE b h k.1.2).1 k.2) rfl
    | _ => simp [chkE] at k
  | .callV i fs es, N, sc, fb, W, X, x, h, k => by
    cases x with
    | Call fe xs ks pos =>
      cases fe with
      | Name x px =>
        cases ks with
        | cons _ _ => simp [chkE] at k
        | nil =>
          cases xs with
          | nil => simp [chkE] at k
          | cons y ys =>
            simp only [chkE, Bool.and_eq_true, decide_eq_true_eq] at k
            obtain ⟨⟨⟨⟨k1, k2⟩, k3⟩, k4⟩, k5⟩ := k
            obtain ⟨d1, d2, d3⟩ := plain_dbg k3
            have z := soundL es h k5
            have ee : evE tb.P Φ (.callV i fs es) = callVE Φ i fs (evL tb.P Φ es) := by funext σ M; simp only [evE] <;> rfl
            refine sdE_plain ee ?_ rfl
            refine l_callV (k := lvl) (fun v hv => ?_) (h.room.mono (Nat.le_succ _)) (by rw [h.st.hN]; exact k1) (h.vis k2) d1 d2 h.pass z.1 z.2.1
            have hv2 := List.all_eq_true.mp k4 v (List.contains_iff_mem.mp hv)
            unfold fvOk at hv2
            obtain ⟨⟨q1, q2⟩, qm, qq⟩ := List.any_eq_true.mp hv2
            simp only [Bool.and_eq_true, decide_eq_true_eq] at qq
            obtain ⟨q3, q4⟩ := qq
            subst q3
            split at q4
            · rename_i kk ek
              obtain ⟨u, hm, r⟩ := h.con q1 kk ek
              obtain ⟨a, fd, ps, hm2, hk, hb, F⟩ := h.fn q1 _ qm
              rw [hm] at hm2
              cases hm2
              rw [h.gle] at q4
              have e5 : c.gl[kk]? = some (.cls v) := by
                unfold isFv at q4
                split at q4
                · rename_i y ey
                  rw [decide_eq_true_eq] at q4
                  rw [ey, q4]
                · cases q4
              exact ⟨kk, a, fd, ps, e5, r, hk, hb, F⟩
            · cases q4
      | _ => simp [chkE] at k
    | _ => simp [chkE] at k
  | .compX m tg kk its d e, N, sc, fb, W, X, x, h, k => by simp [chkE] at k
  | .no, N, sc, fb, W, X, x, h, k => by
    have ee : evE tb.P Φ .no = fun _ _ => .bad := by funext σ M; simp only [evE]
    unfold SdE
    rw [ee]
    exact ⟨⟨fun _ _ _ _ _ _ ⟨_, _, _, _, _, q⟩ => q.elim⟩, fun _ => ⟨fun _ _ _ _ _ _ ⟨_, _, _, _, _, q⟩ => q.elim⟩⟩
theorem soundL : ∀ (es : List E) {N : List Str} {sc : Scope} {fb : Bool} {W : WX} {X : Cx} {xs : List Expr}, XOk c tb Φ lvl CX N sc fb W X → chkL tb N sc es xs = true → SdL c tb Φ W X es xs
  | [], N, sc, fb, W, X, xs, h, k => by
    simp only [chkL, List.isEmpty_iff] at k
    subst k
    have e : evL tb.P Φ [] = fun _ M => .ok [] M := by funext σ M; simp only [evL]
    unfold SdL
    rw [e]
    exact ⟨l_nil, rfl, .nil⟩
  | e :: es, N, sc, fb, W, X, xs, h, k => by
    cases xs with
    | nil => simp [chkL] at k
    | cons x xs =>
      simp only [chkL, Bool.and_eq_true] at k
      have z1 := soundE e h k.1.1
      have z2 := soundL es h k.2
      have ee : evL tb.P Φ (e :: es) = fun σ M => (evE tb.P Φ e σ M).bind fun x M1 => (evL tb.P Φ es σ M1).bind fun xs M2 => .ok (x :: xs) M2 := by funext σ M; simp only [evL]
      unfold SdL
      rw [ee]
      exact ⟨l_cons z1.1 z2.1 k.1.2, by rw [List.all_cons, k.1.2, z2.2.1]; rfl, .cons z1.1 z2.2.2⟩
end
end
end Fw
namespace Fw
open PySem PySem.Spec PyProof.Rows L2
def OkS (c : Ct) (w : Wd) (H : Hp) (r : OutS) (D : Ends) (W : WX) : Prop := match r with
  | .ok .nx σ M => ∀ w' H' τ, Stp w H w' H' → Sim c w' M H' → RepS c w' H' σ τ → D.nx τ H'
  | .ok .brk σ M => ∀ w' H' τ, Stp w H w' H' → Sim c w' M H' → RepS c w' H' σ τ → D.bk τ H'
  | .ok .cnt σ M => ∀ w' H' τ, Stp w H w' H' → Sim c w' M H' → RepS c w' H' σ τ → D.ct τ H'
  | .ok (.ret d) σ M => ∀ w' H' v, Stp w H w' H' → Sim c w' M H' → Rep c w' H' d v → D.rt v H'
  | .exn x fs σ M => ∀ w' H' τ dd, Stp w H w' H' → Sim c w' M H' → RepS c w' H' σ τ → RepX c w' H' fs dd → W (.ref (c.ca x)) dd τ H'
  | .bad => False
def tS (c : Ct) (W : WX) (f : Sl → Hh → OutS) : TS := fun D τ H => ∃ w M σ, Sim c w M H ∧ RepS c w H σ τ ∧ OkS c w H (f σ M) D W
section
variable {c : Ct} {W : WX} {X : Cx} {τ : L2.St} {w w1 : Wd} {M : Hh} {H H1 : Hp} {σ : Sl} {D : Ends}
theorem OkS.lift {r : OutS} (h : OkS c w H r D W) (s : Stp w H w1 H1) : OkS c w1 H1 r D W := by
  cases r with
  | ok f σ M => cases f <;> exact fun w' H' v s' S r => h w' H' v (s.trans s') S r
  | exn x fs σ M => exact fun w' H' τ dd s' S R r => h w' H' τ dd (s.trans s') S R r
  | bad => exact h
theorem nxtE {g : Sl → Hh → Out Fw.D} {k : Fw.D → Hh → OutS} (S : Sim c w M H) (RS : RepS c w H σ τ) (h : OkS c w H ((g σ M).st σ k) D W) :
    tE c W g τ H fun v H1 => ∃ w1 M1 d, Stp w H w1 H1 ∧ Sim c w1 M1 H1 ∧ RepS c w1 H1 σ τ ∧ Rep c w1 H1 d v ∧ OkS c w1 H1 (k d M1) D W := by
  refine ⟨w, M, σ, S, RS, ?_⟩
  cases e : g σ M with
  | bad => rw [e] at h; exact h
  | exn x fs M' => rw [e] at h; exact fun w' H' dd s S' r => h w' H' τ dd s S' (RS.mono s) r
  | ok d M' => rw [e] at h; exact fun w' H' v s S' r => ⟨w', M', d, s, S', RS.mono s, r, OkS.lift h s⟩
theorem nxtA {g : Sl → Hh → Out (List Fw.D)} {k : List Fw.D → Hh → OutS} (S : Sim c w M H) (RS : RepS c w H σ τ) (h : OkS c w H ((g σ M).st σ k) D W) :
    tL c W g τ H fun v H1 => ∃ w1 M1 d, Stp w H w1 H1 ∧ Sim c w1 M1 H1 ∧ RepS c w1 H1 σ τ ∧ RepL c w1 H1 d v ∧ OkS c w1 H1 (k d M1) D W := by
  refine ⟨w, M, σ, S, RS, ?_⟩
  cases e : g σ M with
  | bad => rw [e] at h; exact h
  | exn x fs M' => rw [e] at h; exact fun w' H' dd s S' r => h w' H' τ dd s S' (RS.mono s) r
  | ok d M' => rw [e] at h; exact fun w' H' v s S' r => ⟨w', M', d, s, S', RS.mono s, r, OkS.lift h s⟩
theorem st_ifB (o : Out Fw.D) (σ : Sl) (t f : Hh → OutS) : (o.st σ fun x M => ifB x .bad (t M) (f M)) = (o.bind toB).st σ fun b M => if b = true then t M else f M := by
  cases o with
  | ok d M => cases d with
    | bl b => cases b <;> rfl
    | _ => rfl
  | exn _ _ _ => rfl
  | bad => rfl
theorem nxtC {g : Sl → Hh → Out Fw.D} {t f : Hh → OutS} (S : Sim c w M H) (RS : RepS c w H σ τ) (h : OkS c w H ((g σ M).st σ fun x M => ifB x .bad (t M) (f M)) D W) :
    tT c W g τ H fun b H1 => ∃ w1 M1, Stp w H w1 H1 ∧ Sim c w1 M1 H1 ∧ RepS c w1 H1 σ τ ∧ OkS c w1 H1 (if b = true then t M1 else f M1) D W := by
  rw [st_ifB] at h
  refine ⟨w, M, σ, S, RS, ?_⟩
  cases e : (g σ M).bind toB with
  | bad => rw [e] at h; exact h
  | exn x fs M' => rw [e] at h; exact fun w' H' dd s S' r => h w' H' τ dd s S' (RS.mono s) r
  | ok d M' =>
    rw [e] at h
    intro w' H' b s S' r
    cases (show d = b from r)
    exact ⟨w', M', s, S', RS.mono s, OkS.lift h s⟩
theorem OkS.next {r : OutS} {k : Sl → Hh → OutS} (h : OkS c w H (r.next k) D W) : OkS c w H r { D with nx := tS c W k D } W := by
  cases r with
  | ok f σ M =>
    cases f with
    | nx => exact fun w' H' τ s S R => ⟨w', M, σ, S, R, OkS.lift h s⟩
    | _ => exact h
  | exn _ _ _ _ => exact h
  | bad => exact h
theorem s_nil : PSs X [] (tS c W fun σ M => .ok .nx σ M) := pss_nil.weak fun D τ H ⟨w, M, σ, S, RS, h⟩ => h w H τ Stp.refl S RS
theorem s_cons {st : Stmt} {rest : List Stmt} {f g : Sl → Hh → OutS} (h1 : PS X st (tS c W f)) (h2 : PSs X rest (tS c W g)) : PSs X (st :: rest) (tS c W fun σ M => (f σ M).next g) :=
  (pss_cons h1 h2).weak fun D τ H ⟨w, M, σ, S, RS, h⟩ => ⟨w, M, σ, S, RS, OkS.next h⟩
theorem s_pass {pos : Pos} : PS X (.Pass pos) (tS c W fun σ M => .ok .nx σ M) := ps_pass.weak fun D τ H ⟨w, M, σ, S, RS, h⟩ => h w H τ Stp.refl S RS
theorem s_doc {x : Str} {j : Nat} {p pos : Pos} : PS X (.Expr (.Constant (.str x) j p) pos) (tS c W fun σ M => .ok .nx σ M) := ps_doc.weak fun D τ H ⟨w, M, σ, S, RS, h⟩ => h w H τ Stp.refl S RS
theorem s_brk {pos : Pos} : PS X (.Break pos) (tS c W fun σ M => .ok .brk σ M) := ps_break.weak fun D τ H ⟨w, M, σ, S, RS, h⟩ => h w H τ Stp.refl S RS
theorem s_cnt {pos : Pos} : PS X (.Continue pos) (tS c W fun σ M => .ok .cnt σ M) := ps_continue.weak fun D τ H ⟨w, M, σ, S, RS, h⟩ => h w H τ Stp.refl S RS
theorem s_retN {pos : Pos} : PS X (.Return none pos) (tS c W fun σ M => .ok (.ret .non) σ M) := ps_retN.weak fun D τ H ⟨w, M, σ, S, RS, h⟩ => h w H .non Stp.refl S (rep_non.mpr rfl)
theorem s_ret {e : Expr} {pos : Pos} {f : Sl → Hh → Out Fw.D} (he : PE X e (tE c W f)) : PS X (.Return (some e) pos) (tS c W fun σ M => (f σ M).st σ fun d M1 => .ok (.ret d) σ M1) :=
  (ps_ret he).weak fun D τ H ⟨w, M, σ, S, RS, h⟩ => (nxtE S RS h).imp fun v H1 ⟨w1, M1, d, s, S1, RS1, r, q⟩ => q w1 H1 v Stp.refl S1 r
theorem s_expr {e : Expr} {pos : Pos} {f : Sl → Hh → Out Fw.D} (he : PE X e (tE c W f)) (hn : notComp e = true) : PS X (.Expr e pos) (tS c W fun σ M => (f σ M).st σ fun _ M1 => .ok .nx σ M1) :=
  (ps_expr he (swaps_no hn)).weak fun D τ H ⟨w, M, σ, S, RS, h⟩ => (nxtE S RS h).imp fun v H1 ⟨w1, M1, d, s, S1, RS1, r, q⟩ => q w1 H1 τ Stp.refl S1 RS1
theorem s_if {e : Expr} {a b : List Stmt} {pos : Pos} {f : Sl → Hh → Out Fw.D} {g p : Sl → Hh → OutS} (he : PT X e (tT c W f)) (ha : PSs X a (tS c W g)) (hb : PSs X b (tS c W p)) :
    PS X (.If e a b pos) (tS c W fun σ M => (f σ M).st σ fun x M1 => ifB x .bad (g σ M1) (p σ M1)) :=
  (ps_if he ha hb).weak fun D τ H ⟨w, M, σ, S, RS, h⟩ => (nxtC S RS h).imp fun b H1 ⟨w1, M1, s, S1, RS1, q⟩ => by
    cases b with
    | true => rw [if_pos rfl]; exact ⟨w1, M1, σ, S1, RS1, q⟩
    | false => rw [if_neg Bool.false_ne_true]; exact ⟨w1, M1, σ, S1, RS1, q⟩
theorem asg_of {f : Sl → Hh → Out Fw.D} {i : Nat} (h : tS c W (fun σ M => (f σ M).st σ fun d M1 => .ok .nx (σ.set i (some d)) M1) D τ H) : tAsg (tE c W f) (gName i) D τ H := by
  obtain ⟨w, M, σ, S, RS, h⟩ := h
  exact (nxtE S RS h).imp fun v H1 ⟨w1, M1, d, s, S1, RS1, r, q⟩ => q w1 H1 _ Stp.refl S1 (RS1.set r)
theorem OkS.turn {r : OutS} {k : Sl → Hh → OutS} {N : L2.St → Hp → Prop} (hN : ∀ w' M σ H' τ, Stp w H w' H' → Sim c w' M H' → RepS c w' H' σ τ → OkS c w' H' (k σ M) D W → N τ H') (h : OkS c w H (r.turn k) D W) :
    OkS c w H r { D with nx := N, ct := N, bk := D.nx } W := by
  cases r with
  | ok f σ M =>
    cases f with
    | nx => exact fun w' H' τ s S R => hN w' M σ H' τ s S R (OkS.lift h s)
    | cnt => exact fun w' H' τ s S R => hN w' M σ H' τ s S R (OkS.lift h s)
    | brk => exact h
    | ret d => exact h
  | exn _ _ _ _ => exact h
  | bad => exact h
theorem s_while {e : Expr} {b : List Stmt} {pos : Pos} {f : Sl → Hh → Out Fw.D} {g : Sl → Hh → OutS} (hp : PassesOwn (model X.prog X.w) X.A X.env X.xe) (he : PT X e (tT c W f)) (hb : PSs X b (tS c W g)) :
    PS X (.While e b [] pos) (tS c W fun σ M => whileR f g σ M) :=
  (ps_while hp he hb).weak fun D τ H ⟨w, M, σ, S, RS, h⟩ => by
    dsimp only at h
    unfold whileR at h
    split at h
    · refine ⟨fun m τ H => ∃ w M σ, Sim c w M H ∧ RepS c w H σ τ ∧ OkS c w H (whileN f g m σ M) D W, ⟨_, w, M, σ, S, RS, h⟩, ?_⟩
      rintro m τ H ⟨w, M, σ, S, RS, h⟩
      cases m with
      | zero => exact h.elim
      | succ m =>
        unfold whileN at h
        refine (nxtC S RS h).imp fun b H1 ⟨w1, M1, s, S1, RS1, q⟩ => ?_
        cases b with
        | true =>
          rw [if_pos rfl] at q ⊢
          refine ⟨fun τ H => ∃ w M σ, Sim c w M H ∧ RepS c w H σ τ ∧ OkS c w H (whileN f g m σ M) D W, fun τ' H' z => ⟨m, Nat.lt_succ_self m, z⟩, w1, M1, σ, S1, RS1, ?_⟩
          exact OkS.turn (fun w' M' σ' H' τ' s' S' R' z => ⟨w', M', σ', S', R', z⟩) q
        | false =>
          rw [if_neg Bool.false_ne_true] at q ⊢
          exact q w1 H1 τ Stp.refl S1 RS1
    · exact h.elim
theorem s_for {tg iter : Expr} {b : List Stmt} {pos : Pos} {is : List Nat} {k : ItK} {g0 : Sl → Hh → Out (List Fw.D)} {g : Sl → Hh → OutS} (hp : PassesOwn (model X.prog X.w) X.A X.env X.xe) (hc : X.calm = true) (hi : PI X tg iter (tI c W k g0)) (hg : PG X tg (tG c is)) (hb : PSs X b (tS c W g))
    (hs : ∀ x, foldedSetIterable iter X.env x = pure x) :
    PS X (.For tg iter b [] pos) (tS c W fun σ M => (g0 σ M).st σ fun vs M1 => match itsD k vs M1 with
      | some (xs, gd) => forL (bindTg is) g gd xs σ M1
      | none => .bad) :=
  (ps_for hp hc hi hg hb hs).weak fun D τ H ⟨w, M, σ, S, RS, h⟩ => by
    refine ⟨w, M, σ, S, RS, ?_⟩
    dsimp only at h
    cases e0 : g0 σ M with
    | bad => rw [e0] at h; exact h
    | exn x fs M' => rw [e0] at h; exact fun w' H' dd s S' r => h w' H' τ dd s S' (RS.mono s) r
    | ok vs M1 =>
      rw [e0] at h
      simp only [Out.st_ok] at h
      show (match itsD k vs M1 with | some (xs, g) => _ | none => False)
      cases e1 : itsD k vs M1 with
      | none => rw [e1] at h; exact h
      | some p =>
        obtain ⟨xs, gd⟩ := p
        rw [e1] at h
        simp only at h ⊢
        intro w1 H1 J s1 S1 wk
        replace h := OkS.lift h s1
        have RS1 := RS.mono s1
        refine ⟨fun i n τ2 H2 => n = xs.length - i ∧ i ≤ xs.length ∧ ∃ w2 M2 σ2, Stp w1 H1 w2 H2 ∧ Sim c w2 M2 H2 ∧ RepS c w2 H2 σ2 τ2 ∧ OkS c w2 H2 (forL (bindTg is) g gd (xs.drop i) σ2 M2) D W,
          ⟨_, rfl, Nat.zero_le _, w1, M1, σ, Stp.refl, S1, RS1, by simpa using h⟩, ?_⟩
        rintro i n τ2 H2 ⟨rfl, hi, w2, M2, σ2, s2, S2, RS2, h2⟩
        by_cases hlt : i < xs.length
        · right
          have ed : xs.drop i = xs[i] :: xs.drop (i + 1) := List.drop_eq_getElem_cons hlt
          generalize hx : xs[i] = x at ed
          have ex : xs[i]? = some x := by rw [List.getElem?_eq_getElem hlt, hx]
          rw [ed] at h2
          unfold forL at h2
          split at h2
          · rename_i hgd
            split at h2
            · exact h2.elim
            · rename_i σ3 hb3
              obtain ⟨go, yl⟩ := wk.go _ _ _ s2.gr S2 hgd i x ex
              refine ⟨go, fun τ' H' => (xs.length - (i + 1) = xs.length - (i + 1) ∧ i + 1 ≤ xs.length ∧ ∃ w2 M2 σ2, Stp w1 H1 w2 H' ∧ Sim c w2 M2 H' ∧ RepS c w2 H' σ2 τ' ∧ OkS c w2 H' (forL (bindTg is) g gd (xs.drop (i + 1)) σ2 M2) D W), fun τ' H' z => ⟨_, by omega, z⟩, fun v H3 y => ?_⟩
              obtain ⟨s3, S3, rv⟩ := yl v H3 y
              refine ⟨w2, x, σ2, σ3, (RS2.mono s3).off is, rv, hb3, fun τ3 RS3 _ _ => ⟨w2, M2, σ3, S3, RS3, ?_⟩⟩
              refine OkS.turn (fun w' M' σ' H' τ' s' S' R' z => ⟨rfl, hlt, w', M', σ', (s2.trans s3).trans s', S', R', z⟩) (OkS.lift h2 s3)
          · exact h2.elim
        · left
          have e : i = xs.length := by omega
          subst e
          rw [List.drop_length] at h2
          unfold forL at h2
          split at h2
          · rename_i hgd
            exact ⟨wk.stop _ _ _ s2.gr S2 hgd _ (Nat.le_refl _), h2 w2 H2 τ2 Stp.refl S2 RS2⟩
          · exact h2.elim
theorem s_loopD {tg iter : Expr} {b : List Stmt} {pos : Pos} {is : List Nat} {i : Nat} {vf : Sl → Hh → Out Fw.D} {g : Sl → Hh → OutS} (hp : PassesOwn (model X.prog X.w) X.A X.env X.xe) (hc : X.calm = true) (hv : PE X iter (tE c W vf)) (hvv : ∀ σ d M, σ[i]? = some (some d) → vf σ M = .ok d M) (hg : PG X tg (tG c is)) (hb : PSs X b (tS c W g))
    (hs : ∀ x, foldedSetIterable iter X.env x = pure x) :
    PS X (.For tg iter b [] pos) (tS c W fun σ M => match lockD σ i M with
      | some (k, ks, vs) => if line < ks.length then .bad else unlkS k ks vs (forL (bindTg is) g [] ks σ (M.set k (.lck ks vs)))
      | none => .bad) :=
  (ps_lock (ps_for hp hc (pi_keys hv) hg hb hs)).weak fun D τ H ⟨w, M, σ, S, RS, h⟩ => by
    dsimp only at h
    cases e0 : lockD σ i M with
    | none => rw [e0] at h; exact h.elim
    | some q =>
      obtain ⟨k, ks, vs⟩ := q
      rw [e0] at h
      simp only at h
      obtain ⟨es, eM⟩ := lockD_inv e0
      by_cases hz : line < ks.length
      · rw [if_pos hz] at h; exact h.elim
      rw [if_neg hz] at h
      obtain ⟨_, _, rk⟩ := RS.at_ i _ es
      obtain ⟨d, rfl, hk⟩ := rep_ref.mp rk
      obtain ⟨l1, l2, kvs, hd, nd, ek, r1, r2⟩ := S.cell k d _ hk eM
      have hlk : ks.length = kvs.length := by rw [ek, List.length_map]
      refine ⟨d, .dK kvs, hd, trivial, fun od => ?_⟩
      have nf0 : ∀ x u, H d ≠ some (.frz x u) := nf hd trivial
      have s0 : Stp w H w (upd H d (.frz od (.dK kvs))) := Stp.write hk nf0
      have S0 : Sim c w (M.set k (.lck ks vs)) (upd H d (.frz od (.dK kvs))) := S.write hk ⟨l1, l2, od, kvs, upd_same, nd, ek, RepL.mono s0 _ _ r1, RepL.mono s0 _ _ r2⟩
      have RS0 := RS.mono s0
      have r10 := RepL.mono s0 _ _ r1
      have r20 := RepL.mono s0 _ _ r2
      have u0 : upd H d (.frz od (.dK kvs)) d = some (.frz od (.dK kvs)) := upd_same
      generalize hH0 : upd H d (.frz od (.dK kvs)) = H0 at s0 S0 RS0 r10 r20 u0
      have fin : ∀ {w' : Wd} {M' : Hh} {H' : Hp} {α : Prop}, Stp w H0 w' H' → Sim c w' M' H' → (H' d = some (.frz od (.dK kvs)) → Stp w H w' (upd H' d (.dK kvs)) → Sim c w' (M'.set k (.dic .one ks vs)) (upd H' d (.dK kvs)) → Gr w' H' w' (upd H' d (.dK kvs)) → α) → α := by
        intro w' M' H' α s' S' z
        have f' : H' d = some (.frz od (.dK kvs)) := s'.frz _ _ _ u0
        have stp : Stp w H w' (upd H' d (.dK kvs)) := Stp.unlk hk hd (by rw [hH0]; exact s')
        have hk2 : w'.ι[k]? = some d := s'.ix hk
        have g3 : Gr w' H' w' (upd H' d (.dK kvs)) := Gr.set hk2 _
        exact z f' stp (S'.write hk2 ⟨l1, l2, kvs, upd_same, nd, ek, RepL.gr g3 _ _ (RepL.mono s' _ _ r10), RepL.gr g3 _ _ (RepL.mono s' _ _ r20)⟩) g3
      have inner : OkS c w H0 (forL (bindTg is) g [] ks σ (M.set k (.lck ks vs))) ⟨fun σ' H' => H' d = some (.frz od (.dK kvs)) ∧ D.nx σ' (upd H' d (.dK kvs)), fun v H' => H' d = some (.frz od (.dK kvs)) ∧ D.rt v (upd H' d (.dK kvs)), fun σ' H' => H' d = some (.frz od (.dK kvs)) ∧ D.bk σ' (upd H' d (.dK kvs)), fun σ' H' => H' d = some (.frz od (.dK kvs)) ∧ D.ct σ' (upd H' d (.dK kvs))⟩ W := by
        generalize forL (bindTg is) g [] ks σ (M.set k (.lck ks vs)) = r at h
        cases r with
        | bad => exact h.elim
        | exn x fs σ' M' => exact h.elim
        | ok f σ' M' =>
          unfold unlkS at h
          simp only at h
          split at h
          · cases f with
            | nx => exact fun w' H' v s' S' R => fin s' S' fun f' st S2 g3 => ⟨f', h w' _ v st S2 (R.gr g3)⟩
            | brk => exact fun w' H' v s' S' R => fin s' S' fun f' st S2 g3 => ⟨f', h w' _ v st S2 (R.gr g3)⟩
            | cnt => exact fun w' H' v s' S' R => fin s' S' fun f' st S2 g3 => ⟨f', h w' _ v st S2 (R.gr g3)⟩
            | ret dd => exact fun w' H' v s' S' R => fin s' S' fun f' st S2 g3 => ⟨f', h w' _ v st S2 (Rep.gr g3 _ _ R)⟩
          · exact h.elim
      refine ⟨w, M.set k (.lck ks vs), σ, S0, RS0, ?_⟩
      rw [hvv σ _ _ es]
      intro w1 H1 v s1 S1 rv
      obtain ⟨d', rfl, hk1⟩ := rep_ref.mp rv
      have hd' : d' = d := by
        have : w1.ι[k]? = some d := s1.ix hk
        rw [this] at hk1
        exact (Option.some.inj hk1).symm
      subst hd'
      have f1 : H1 d' = some (.frz od (.dK kvs)) := s1.frz _ _ _ u0
      refine ⟨d', od, rfl, .inl ⟨kvs, f1, ?_⟩⟩
      replace inner := OkS.lift inner s1
      have RS1 := RS0.mono s1
      have r11 := RepL.mono s1 _ _ r10
      refine ⟨fun i n τ2 H2 => n = ks.length - i ∧ i ≤ ks.length ∧ ∃ w2 M2 σ2, Stp w1 H1 w2 H2 ∧ Sim c w2 M2 H2 ∧ RepS c w2 H2 σ2 τ2 ∧ OkS c w2 H2 (forL (bindTg is) g [] (ks.drop i) σ2 M2) _ W,
        ⟨_, rfl, Nat.zero_le _, w1, _, σ, Stp.refl, S1, RS1, by simpa using inner⟩, ?_⟩
      rintro i n τ2 H2 ⟨rfl, hi, w2, M2, σ2, s2, S2, RS2, h2⟩
      have f2 : H2 d' = some (.frz od (.dK kvs)) := s2.frz _ _ _ f1
      by_cases hlt : i < ks.length
      · right
        have ed : ks.drop i = ks[i] :: ks.drop (i + 1) := List.drop_eq_getElem_cons hlt
        generalize hx : ks[i] = x at ed
        have ex : ks[i]? = some x := by rw [List.getElem?_eq_getElem hlt, hx]
        rw [ed] at h2
        unfold forL at h2
        split at h2
        · split at h2
          · exact h2.elim
          · rename_i σ3 hb3
            refine ⟨⟨f2, by rw [← hlk]; exact hlt⟩, fun τ' H' => (ks.length - (i + 1) = ks.length - (i + 1) ∧ i + 1 ≤ ks.length ∧ ∃ w2 M2 σ2, Stp w1 H1 w2 H' ∧ Sim c w2 M2 H' ∧ RepS c w2 H' σ2 τ' ∧ OkS c w2 H' (forL (bindTg is) g [] (ks.drop (i + 1)) σ2 M2) _ W), fun τ' H' z => ⟨_, by omega, z⟩, fun v H3 y => ?_⟩
            obtain ⟨rfl, kk, vv, ekk, rfl⟩ := y
            have rv : Rep c w2 H3 x (kV kk) := by
              obtain ⟨v', ev, rv⟩ := (RepL.mono s2 _ _ r11).get ex
              rw [List.getElem?_map, ekk] at ev
              cases ev
              exact rv
            refine ⟨w2, x, σ2, σ3, RS2.off is, rv, hb3, fun τ3 RS3 _ _ => ⟨w2, M2, σ3, S2, RS3, ?_⟩⟩
            exact OkS.turn (fun w' M' σ' H' τ' s' S' R' z => ⟨rfl, hlt, w', M', σ', s2.trans s', S', R', z⟩) h2
        · exact h2.elim
      · left
        have e : i = ks.length := by omega
        subst e
        rw [List.drop_length] at h2
        unfold forL at h2
        split at h2
        · exact ⟨⟨f2, by omega⟩, h2 w2 H2 τ2 Stp.refl S2 RS2⟩
        · exact h2.elim
end
end Fw
namespace Fw
open PySem PySem.Spec PyProof.Rows L2
def rSub (K : PySem.W.Frag) : TSet := fun o i v H Q => rSetL o i v H Q ∨ rSetD o i v H Q ∨ rSetM K o i v H Q
theorem set_sub {X : Cx} (hu : X.A.units + 1 < cLine) : PSet X (rSub X.K) := by
  intro pins s σ H o i v ov iv u Q I r1 r2 r3 h
  rcases h with h | h | h
  · exact set_list pins s σ H o i v ov iv u Q I r1 r2 r3 h
  · exact set_dict hu pins s σ H o i v ov iv u Q I r1 r2 r3 h
  · exact set_dictM hu pins s σ H o i v ov iv u Q I r1 r2 r3 h
section
variable {c : Ct} {w : Wd} {M M' : Hh} {H : Hp}
theorem ixN_eq {n j : Nat} {z : Int} (h : Fw.ixN n z = some j) : L2.ixN n z = some j := by
  unfold Fw.ixN at h
  unfold L2.ixN
  exact h
theorem sub_ok (S : Sim c w M H) {d o i : D} {v x y : V} (rd : Rep c w H d v) (ro : Rep c w H o x) (ri : Rep c w H i y) (h : subD d o i M = some M') {Q : Hp → Prop} (q : ∀ H', Stp w H w H' → Sim c w M' H' → Q H') : rSub c.K x y v H Q := by
  unfold subD at h
  split at h
  · rename_i a
    obtain ⟨p, rfl, ha⟩ := rep_ref.mp ro
    split at h
    · rename_i xs hM
      split at h
      · rename_i z
        split at h
        · rename_i j hj
          cases h
          rw [rep_int] at ri
          subst ri
          obtain ⟨vs, e2, l, rr⟩ := S.cell a p _ ha hM
          left
          have s : Stp w H w (upd H p (.lst (vs.set j v))) := Stp.write ha (nf e2 trivial)
          refine ⟨p, vs, z, j, rfl, rfl, e2, ixN_eq (by rw [← rr.len]; exact hj), q _ s ?_⟩
          exact S.write ha ⟨_, upd_same, by rw [List.length_set]; exact l, RepL.mono s _ _ (rr.set j rd)⟩
        · cases h
      · cases h
    · rename_i t ks vs hM
      split at h
      · rename_i hk
        cases h
        obtain ⟨hk, hl⟩ := hk
        obtain ⟨l1, l2, hh⟩ := S.cell a p _ ha hM
        right
        cases t with
        | tup =>
          right
          obtain ⟨kvs, xs, dm, rfl, r1, rv⟩ := repO_dm (c := c) ⟨l1, l2, hh⟩
          obtain ⟨k, b, rfl, rfl, hki, eb⟩ := keyI_ok hk ri
          have hl' : kvs.length < sizeLine := by rw [List.length_map] at hl; exact hl
          refine ⟨p, kvs, xs, k, b, rfl, rfl, dm, hki, eb, hl', fun u ru => q _ (Stp.write ha (nf dm.at_ trivial)) (S.write ha ?_)⟩
          exact put_repM dm r1 rv ha hki ri rd ru hl'
        | two =>
          left
          obtain ⟨kvs, e, nd, e5, rk, rv⟩ := hh
          subst e5
          obtain ⟨k, b, rfl, rfl, nb, eb, zb, rb⟩ := keyT_ok hk ri
          obtain ⟨p1, p2, p3⟩ := put_ok (c := c) (w := w) (H := H) (f := fun k : List Key => D.tup (k.map kD)) (fun a b => by simp only [eqD]; exact eqL_kD a b) (k := k) rd nd rv
          obtain ⟨n1, n2⟩ := put_keys (k := k) (v := v) nd
          have s : Stp w H w (upd H p (.dT (L2.putK kvs k v))) := Stp.write ha (nf e trivial)
          refine ⟨p, _, rfl, DPut.t e eb (by rw [List.length_map] at hl; exact hl), q _ s ?_⟩
          refine S.write ha ⟨?_, ?_, _, upd_same, n1, p1, ?_, RepL.mono s _ _ p2⟩
          · rw [p1, p2.len]; simp
          · rw [p1, List.length_map]
            have : kvs.length < line := by rw [List.length_map] at hl; exact hl
            unfold line at this
            omega
          · intro p hp
            rcases n2 p.1 (List.mem_map_of_mem hp) with z | z
            · rw [z]; exact ⟨zb, RepL.mono s _ _ rb⟩
            · obtain ⟨p2, hp2, ez⟩ := List.mem_map.mp z
              rw [← ez]
              exact ⟨(rk p2 hp2).1, RepL.mono s _ _ (rk p2 hp2).2⟩
        | one =>
          left
          obtain ⟨kvs, e, nd, rfl, rk, rv⟩ := hh
          obtain ⟨k, rfl, rfl⟩ := key1_ok (show key1 i = true from hk) ri
          obtain ⟨p1, p2, p3⟩ := put_ok (c := c) (w := w) (H := H) eqD_kD (k := k) rd nd rv
          obtain ⟨n1, n2⟩ := put_keys (k := k) (v := v) nd
          have s : Stp w H w (upd H p (.dK (L2.putK kvs k v))) := Stp.write ha (nf e trivial)
          refine ⟨p, _, rfl, DPut.k e (by rw [List.length_map] at hl; exact hl), q _ s ?_⟩
          refine S.write ha ⟨?_, ?_, _, upd_same, n1, p1, ?_, RepL.mono s _ _ p2⟩
          · rw [p1, p2.len]; simp
          · rw [p1, List.length_map]
            have : kvs.length < line := by rw [List.length_map] at hl; exact hl
            unfold line at this
            omega
          · rw [p1]
            refine RepL.mono s _ _ ?_
            have go : ∀ l : List (Key × V), (∀ x ∈ l.map (·.1), x = k ∨ x ∈ kvs.map (·.1)) → RepL c w H (l.map fun p => kD p.1) (l.map fun p => kV p.1) := by
              intro l
              induction l with
              | nil => intro _; exact RepL.nil
              | cons p l ih =>
                intro hl2
                refine RepL.cons ?_ (ih fun x hx => hl2 x (by simp at hx ⊢; exact .inr hx))
                rcases hl2 p.1 (by simp) with z | z
                · dsimp only; rw [z]; exact ri
                · obtain ⟨p2, hp2, ez⟩ := List.mem_map.mp z
                  have z2 : ∀ l : List (Key × V), p2 ∈ l → RepL c w H (l.map fun p => kD p.1) (l.map fun p => kV p.1) → Rep c w H (kD p2.1) (kV p2.1) := by
                    intro l
                    induction l with
                    | nil => intro hm _; cases hm
                    | cons y l ih2 =>
                      intro hm rr
                      obtain ⟨_, _, e3, g1, g2⟩ := rr.uncons
                      simp only [List.map_cons, List.cons.injEq] at e3
                      obtain ⟨e3, e4⟩ := e3
                      subst e3 e4
                      rcases List.mem_cons.mp hm with z | z
                      · subst z; exact g1
                      · exact ih2 z g2
                  dsimp only; rw [← ez]
                  exact z2 kvs hp2 rk
            exact go _ n2
      · cases h
    · cases h
  · cases h
end
def noSet : Expr → Bool
  | .SetComp .. => false
  | .DictComp .. => false
  | _ => true
theorem swaps_tup {es : List Expr} {k : Nat} {p : Pos} {e : Expr} {l : Nat} {env : Env} (h : noSet e = true) : swapsWithSole [.Tuple es k p] e l env = pure false := by
  cases e <;> first | rfl | (simp [noSet] at h)
theorem swaps_sub {o i : Expr} {p : Pos} {e : Expr} {l : Nat} {env : Env} (h : noSet e = true) : swapsWithSole [.Subscript o i p] e l env = pure false := by
  cases e <;> first | rfl | (simp [noSet] at h)
theorem swaps_att {o : Expr} {n : Str} {p : Pos} {e : Expr} {l : Nat} {env : Env} (h : noSet e = true) : swapsWith e (some (.Attribute o n p)) l env = pure false := by
  cases e <;> first | rfl | (simp [noSet] at h)
theorem swaps_sole {tg e : Expr} {l : Nat} {env : Env} (h : notComp e = true) : swapsWithSole [tg] e l env = pure false := swaps_no (t := some tg) h
section
variable {c : Ct} {W : WX} {X : Cx}
theorem s_sub {o i e : Expr} {p pos : Pos} {f g h : Sl → Hh → Out D} (hK : X.K = c.K) (hu : X.A.units + 1 < cLine) (he : PE X e (tE c W f)) (ho : PE X o (tE c W g)) (hi : PE X i (tE c W h)) (hn : noSet e = true) (hs : notSlice i = true) :
    PS X (.Assign [.Subscript o i p] e pos) (tS c W fun σ M => (f σ M).st σ fun d M1 => (g σ M1).st σ fun x M2 => (h σ M2).st σ fun y M3 => match subD d x y M3 with | some M4 => .ok .nx σ M4 | none => .bad) := by
  have hw : swappedStores [.Subscript o i p] e X.env = pure none := by cases e <;> rfl
  have ha : ∀ v, assign (.Subscript o i p) X.env v = (do
      let ov ← holding [v] (eval o X.env)
      let iv ← holding [v, ov] (eval i X.env)
      standAt p
      holding [v, ov, iv] (setItem ov iv v)
      release [v, ov, iv] []) := by intro v; cases i <;> first | rfl | (simp [notSlice] at hs)
  refine (ps_asg he (pg_sub ho hi (by rw [← hK]; exact set_sub hu : PSet X (rSub c.K)) ha) (swaps_sub hn) hw).weak fun D τ H ⟨w, M, σ, S, RS, q⟩ => ?_
  refine (nxtE S RS q).imp fun v H1 ⟨w1, M1, d, s1, S1, RS1, r1, q1⟩ => ?_
  refine (nxtE S1 RS1 q1).imp fun x H2 ⟨w2, M2, d2, s2, S2, RS2, r2, q2⟩ => ?_
  refine (nxtE S2 RS2 q2).imp fun y H3 ⟨w3, M3, d3, s3, S3, RS3, r3, q3⟩ => ?_
  cases hk : subD d d2 d3 M3 with
  | none => rw [hk] at q3; exact q3.elim
  | some M4 =>
    rw [hk] at q3
    refine sub_ok S3 (Rep.mono s3 _ _ (Rep.mono s2 _ _ r1)) (Rep.mono s3 _ _ r2) r3 hk fun H4 s4 S4 => ?_
    exact q3 w3 H4 τ s4 S4 (RS3.mono s4)
theorem pg_or {X : Cx} {tgt : Expr} {t1 t2 : TG} (h1 : PG X tgt t1) (h2 : PG X tgt t2) : PG X tgt (fun v σ H Q => t1 v σ H Q ∨ t2 v σ H Q) :=
  ⟨fun pins s σ H v u Q I r h => h.elim (h1.run pins s σ H v u Q I r) (h2.run pins s σ H v u Q I r)⟩
theorem s_names {es : List Expr} {is : List Nat} {e : Expr} {k : Nat} {p pos : Pos} {l : Bool} {f : Sl → Hh → Out D} (hc : X.calm = true) (hK : X.K = c.K) (he : PE X e (tE c W f)) (hg : PGs X es (gNs is)) (hl : (assignEach es X.env).length = is.length) (hst : (assignEach es X.env).findIdx? (·.1) = none) (hn : noSet e = true) (hw : swappedStores [.Tuple es k p] e X.env = pure none) :
    PS X (.Assign [.Tuple es k p] e pos) (tS c W fun σ M => (f σ M).st σ fun d M1 => match (if l then seqOf M1 d else match d with | .tup xs => some xs | _ => none) with
      | some ds => match setAll is ds σ with
        | some σ1 => .ok .nx σ1 M1
        | none => .bad
      | none => .bad) := by
  cases l with
  | false =>
    refine (ps_asg he (pg_tup hc hg hl hst) (swaps_tup hn) hw).weak fun D τ H ⟨w, M, σ, S, RS, q⟩ => ?_
    refine (nxtE S RS q).imp fun v H1 ⟨w1, M1, d, s1, S1, RS1, r1, q1⟩ => ?_
    simp only [Bool.false_eq_true, if_false] at q1
    cases d with
    | tup ds =>
      simp only at q1
      obtain ⟨a, vs, rfl, hq, z, rr⟩ := rep_tup.mp r1
      split at q1
      · rename_i σ1 hs
        have hlen := setAll_len hs
        refine ⟨a, vs, rfl, by rw [hK]; exact hq.sq, by rw [← rr.len, hlen], by rw [← rr.len, hlen], ?_⟩
        exact q1 w1 H1 _ Stp.refl S1 ((RS1.off is).all rr hs)
      · exact q1.elim
    | _ => exact q1.elim
  | true =>
    refine (ps_asg he (pg_or (pg_lst hc hg hl hst) (pg_tup hc hg hl hst)) (swaps_tup hn) hw).weak fun D τ H ⟨w, M, σ, S, RS, q⟩ => ?_
    refine (nxtE S RS q).imp fun v H1 ⟨w1, M1, d, s1, S1, RS1, r1, q1⟩ => ?_
    simp only [if_true] at q1
    split at q1
    · rename_i ds hd
      by_cases ht : ∃ es, d = .tup es
      · obtain ⟨es, rfl⟩ := ht
        simp only [seqOf] at hd
        cases hd
        obtain ⟨a, vs, rfl, hq, z, rr⟩ := rep_tup.mp r1
        split at q1
        · rename_i σ1 hs
          have hlen := setAll_len hs
          refine .inr ⟨a, vs, rfl, by rw [hK]; exact hq.sq, by rw [← rr.len, hlen], by rw [← rr.len, hlen], ?_⟩
          exact q1 w1 H1 _ Stp.refl S1 ((RS1.off is).all rr hs)
        · exact q1.elim
      · have hd' : lstOf M1 d = some ds := by
          cases d <;> first | exact hd | exact absurd ⟨_, rfl⟩ ht
        obtain ⟨a, vs, rfl, hq, z, rr⟩ := lstOf_ok S1 hd' r1
        split at q1
        · rename_i σ1 hs
          have hlen := setAll_len hs
          refine .inl ⟨a, vs, rfl, by rw [hK]; exact hq, by rw [← rr.len, hlen], by rw [← rr.len, hlen], ?_⟩
          exact q1 w1 H1 _ Stp.refl S1 ((RS1.off is).all rr hs)
        · exact q1.elim
    · exact q1.elim
section
variable {P : Pg} {an mn : List Str} {on : List (Str × Nat)} {Φ : Orc} {lvl : Nat} {CX : CXT}
theorem fld_ok {w : Wd} {M M' : Hh} {H : Hp} {d o : D} {v x : V} {k : Nat} {n : Str} (hK : X.K = c.K) (B : ObOk c P an mn on Φ lvl CX X.prog X.w X.mg X.base) (hk : an[k]? = some n) (S : Sim c w M H) (rd : Rep c w H d v) (ro : Rep c w H o x) (h : fldD P.ini d o k M = some M') :
    ∃ a C dx fv, x = .ref a ∧ H a = some (.ins C dx fv) ∧ Cls X.K C ∧ NoAttr X.K C n ∧ fv.length < 1000 ∧ Stp w H w (upd H a (.ins C dx (L2.putF n v fv))) ∧ Sim c w M' (upd H a (.ins C dx (L2.putF n v fv))) := by
  unfold fldD at h
  split at h
  · rename_i i
    split at h
    · rename_i x0 fs hM
      split at h
      · rename_i hi
        cases h
        obtain ⟨p, rfl, ha⟩ := rep_ref.mp ro
        obtain ⟨dx, fv, e, e2, e3, rr⟩ := S.cell i p _ ha hM
        obtain ⟨hc, hn⟩ := B.cl x0 hi.1
        have hn := hn n (List.mem_of_getElem? hk)
        rw [← hK] at hc hn
        have hlen : fv.length = fs.length := by
          have := congrArg List.length e2
          simpa using this
        obtain ⟨q1, q2, q3⟩ := put_rep (f := k) rd e2 rr (fun p hp z => B.inj (e3 p hp) hk z)
        rw [B.aN k n hk] at q1 q2
        have s : Stp w H w (upd H p (.ins (c.ca x0) dx (L2.putF n v fv))) := Stp.write ha (nf e trivial)
        refine ⟨p, _, dx, fv, rfl, e, hc, hn, by omega, s, S.write ha ⟨dx, _, upd_same, q1, fun p hp => ?_, RepL.mono s _ _ q2⟩⟩
        rcases q3 p hp with z | ⟨q, hq, z⟩
        · rw [z, B.na]; exact (List.getElem?_eq_some_iff.mp hk).1
        · rw [← z]; exact e3 q hq
      · cases h
    · cases h
  · cases h
theorem s_fld {o e : Expr} {k : Nat} {n : Str} {p pos : Pos} {f g : Sl → Hh → Out D} (hK : X.K = c.K) (B : ObOk c P an mn on Φ lvl CX X.prog X.w X.mg X.base) (hk : an[k]? = some n) (he : PE X e (tE c W f)) (ho : PE X o (tE c W g)) (hn : noSet e = true) :
    PS X (.Assign [.Attribute o n p] e pos) (tS c W fun σ M => (f σ M).st σ fun d M1 => (g σ M1).st σ fun x M2 => match fldD P.ini d x k M2 with | some M4 => .ok .nx σ M4 | none => .bad) := by
  refine (ps_fld ho he (swaps_att hn)).weak fun D τ H ⟨w, M, σ, S, RS, q⟩ => ?_
  refine (nxtE S RS q).imp fun v H1 ⟨w1, M1, d, s1, S1, RS1, r1, q1⟩ => ?_
  refine (nxtE S1 RS1 q1).imp fun x H2 ⟨w2, M2, d2, s2, S2, RS2, r2, q2⟩ => ?_
  cases hf : fldD P.ini d d2 k M2 with
  | none => rw [hf] at q2; exact q2.elim
  | some M4 =>
    rw [hf] at q2
    obtain ⟨a, C, dx, fv, rfl, e, hc, hna, hl, s, S3⟩ := fld_ok hK B hk S2 (Rep.mono s2 _ _ r1) r2 hf
    exact ⟨a, C, dx, fv, rfl, e, hc, hna, hl, q2 w2 _ τ s S3 (RS2.mono s)⟩
def gFls (c : Ct) (P : Pg) (i : Nat) (fs : List Nat) : TGs := fun vs τ H Q => ∃ w M σ x ds M', Sim c w M H ∧ RepS c w H σ τ ∧ σ[i]? = some (some x) ∧ RepL c w H ds vs ∧ putAll P.ini x fs ds M = some M' ∧
  ∀ w' H', Stp w H w' H' → Sim c w' M' H' → RepS c w' H' σ τ → Q τ H'
def chkFls (an N : List Str) (sc : Scope) (i : Nat) : List Nat → List Expr → Bool
  | [], [] => true
  | f :: fs, x :: xs => (match x with | .Attribute (.Name y _) n _ => decide (N[i]? = some y) && isVis sc y && plainName y && decide (an[f]? = some n) | _ => false) && chkFls an N sc i fs xs
  | _, _ => false
theorem putAll_len {ini : Nat → Option Nat} {x : D} : ∀ {fs : List Nat} {ds : List D} {M M' : Hh}, putAll ini x fs ds M = some M' → fs.length = ds.length
  | [], [], _, _, _ => rfl
  | [], _ :: _, _, _, e => by simp [putAll] at e
  | _ :: _, [], _, _, e => by simp [putAll] at e
  | f :: fs, d :: ds, M, M', e => by
    unfold putAll at e
    split at e
    · simp [putAll_len e]
    · cases e
theorem pgs_fls {N : List Str} {sc : Scope} {i : Nat} (hK : X.K = c.K) (hN : X.N = N) (hsc : X.env.scope = sc) (B : ObOk c P an mn on Φ lvl CX X.prog X.w X.mg X.base) (vis : ∀ y, isVis sc y = true → Vis X.env.scope y) : ∀ {fs : List Nat} {es : List Expr}, chkFls an N sc i fs es = true →
    PGs X es (gFls c P i fs) ∧ (assignEach es X.env).length = fs.length ∧ (assignEach es X.env).findIdx? (·.1) = none
  | [], [], _ => by
    refine ⟨⟨fun pins s τ H vs us Q I r q => ?_⟩, rfl, rfl⟩
    obtain ⟨w, M, σ, x, ds, M', S, RS, hx, rl, hp, k⟩ := q
    cases ds with
    | cons _ _ => simp [putAll] at hp
    | nil =>
      simp only [putAll, Option.some.injEq] at hp
      subst hp
      have : vs = [] := by simpa [RepL] using rl
      subst this
      exact pgs_nil.run pins s τ H _ us Q I r ⟨rfl, k w H Stp.refl S RS⟩
  | [], _ :: _, e => by simp [chkFls] at e
  | _ :: _, [], e => by simp [chkFls] at e
  | f :: fs, x :: es, h => by
    unfold chkFls at h
    rw [Bool.and_eq_true] at h
    obtain ⟨h1, h2⟩ := h
    obtain ⟨i1, i2, i3⟩ := pgs_fls hK hN hsc B vis h2
    split at h1
    · rename_i y py n pa
      simp only [Bool.and_eq_true, decide_eq_true_eq] at h1
      obtain ⟨⟨⟨g1, g2⟩, g3⟩, g4⟩ := h1
      obtain ⟨d1, d2, d3⟩ := plain_dbg g3
      refine ⟨⟨fun pins s τ H vs us Q I r q => ?_⟩, by show (assignEach es X.env).length + 1 = _; rw [i2]; rfl, ?_⟩
      · obtain ⟨w, M, σ, x, ds, M', S, RS, hx, rl, hp, k⟩ := q
        cases ds with
        | nil => simp [putAll] at hp
        | cons d ds =>
          obtain ⟨v, vr, rfl, r1, r2⟩ := rl.uncons
          cases r with
          | cons ru rr =>
            unfold putAll at hp
            split at hp
            · rename_i M1 hf
              refine assignInOrder_cons ?_
              show wpAny _ _ (assign (.Attribute (.Name y py) n pa) X.env _) _ _ _
              rw [assign_Attribute]
              obtain ⟨o, ho, ro⟩ := RS.at_ i x hx
              have pv : PE X (.Name y py) (tVar i) := pe_var (by rw [hN]; exact g1) (vis y g2) d1 d2
              obtain ⟨a, C, dx, fv, rfl, e, hc, hna, hl, s', S'⟩ := fld_ok hK B g4 S r1 ro hf
              refine wpAny_bind (wpAny_holding (thn (pv.run pins s τ H (fun u H1 => u = .ref a ∧ H1 = H) I ⟨_, ho, rfl, rfl⟩) fun ov s1 hh => ?_))
              obtain ⟨u, H1, I1, rv, e1, e2⟩ := hh
              subst e1 e2
              obtain rfl : ov = Value.ref a := rv
              refine wpAny_bind (wpAny_standAt (wpAny_bind (wpAny_holding (setattr_ok I1 e hc hna hl ru fun s2 I2 => ?_))))
              refine wpAny_release ?_
              exact i1.run pins s2 τ _ vr _ Q I2 rr ⟨w, M1, σ, x, ds, M', S', RS.mono s', hx, RepL.mono s' _ _ r2, hp, fun w' H' st S2 R2 => k w' H' (s'.trans st) S2 R2⟩
            · cases hp
      · show List.findIdx? _ ((false, _) :: assignEach es X.env) = none
        rw [List.findIdx?_cons, i3]
        rfl
    · cases h1
end
theorem s_flds {P : Pg} {i : Nat} {fs : List Nat} {es : List Expr} {e : Expr} {k : Nat} {p pos : Pos} {f : Sl → Hh → Out D} (hc : X.calm = true) (hK : X.K = c.K) (he : PE X e (tE c W f)) (hg : PGs X es (gFls c P i fs)) (hl : (assignEach es X.env).length = fs.length) (hst : (assignEach es X.env).findIdx? (·.1) = none) (hn : noSet e = true)
    (hw : swappedStores [.Tuple es k p] e X.env = pure none) : PS X (.Assign [.Tuple es k p] e pos) (tS c W fun σ M => (f σ M).st σ fun d M1 => match d with
      | .tup ds => match σ[i]? with
        | some (some x) => match putAll P.ini x fs ds M1 with
          | some M2 => .ok .nx σ M2
          | none => .bad
        | _ => .bad
      | _ => .bad) := by
  refine (ps_asg he (pg_tup hc hg hl hst) (swaps_tup hn) hw).weak fun D τ H ⟨w, M, σ, S, RS, q⟩ => ?_
  refine (nxtE S RS q).imp fun v H1 ⟨w1, M1, d, s1, S1, RS1, r1, q1⟩ => ?_
  cases d with
  | tup ds =>
    simp only at q1
    obtain ⟨a, vs, rfl, hq, z, rr⟩ := rep_tup.mp r1
    split at q1
    · rename_i x hx
      split at q1
      · rename_i M2 hp
        refine ⟨a, vs, rfl, by rw [hK]; exact hq.sq, by rw [← rr.len, putAll_len hp], w1, M1, σ, x, ds, M2, S1, RS1, hx, rr, hp, fun w' H' st S2 R2 => ?_⟩
        exact q1 w' H' _ st S2 R2
      · exact q1.elim
    · exact q1.elim
  | _ => exact q1.elim
theorem par_of {is : List Nat} {g : Sl → Hh → Out (List D)} {D : Ends} {τ : L2.St} {H : Hp} (h : tS c W (fun σ M => (g σ M).st σ fun ds M1 => match setAll is ds σ with | some σ1 => .ok .nx σ1 M1 | none => .bad) D τ H) :
    tL c W g τ H fun vs H1 => vs.length = is.length ∧ D.nx (setV is vs τ) H1 := by
  obtain ⟨w, M, σ, S, RS, q⟩ := h
  refine (nxtA S RS q).imp fun vs H1 ⟨w1, M1, ds, s1, S1, RS1, r1, q1⟩ => ?_
  split at q1
  · rename_i σ1 hs
    exact ⟨by rw [← r1.len, setAll_len hs], q1 w1 H1 _ Stp.refl S1 ((RS1.off is).all r1 hs)⟩
  · exact q1.elim
end
end Fw
namespace Fw
open PySem PySem.Spec PyProof.Rows L2
section
variable {c : Ct} {W : WX} {X : Cx}
theorem mk_heap {H : Hp} {a d C : Addr} {v : V} (ha : H a = none) (hne : d ≠ a) : upd (del (upd (upd H d (exd d [("at", v)])) a (exo a C (some d))) a) d (.xd [("at", v)]) = upd H d (.xd [("at", v)]) := by
  funext b
  by_cases hb : b = d
  · subst hb; rw [upd_same, upd_same]
  · rw [upd_ne hb, upd_ne hb]
    by_cases hba : b = a
    · subst hba; rw [del_same, ha]
    · rw [del_ne hba, upd_ne hba, upd_ne hb]
theorem raise_mk {w1 : Wd} {M1 : Hh} {H1 : Hp} {τ : L2.St} {σ : Sl} {k : Nat} {d : D} {v : V} {D0 : Ends} (S1 : Sim c w1 M1 H1) (RS1 : RepS c w1 H1 σ τ) (r : Rep c w1 H1 d v) (T : OexC c.K (c.ca k)) (no : PySem.W.findIn c.K (.ref (c.ca k)) "at" = some none)
    (q : OkS c w1 H1 (.exn k [d] σ M1) D0 W) : ∀ a, H1 a = none → spInit c.K [.ref a, v] (upd H1 a (exo a (c.ca k) none))
      (fun u H2 => u = .non ∧ ∃ (dx : Addr) (fs : List (Str × V)), H2 a = some (exo a (c.ca k) (some dx)) ∧ H2 dx = some (exd dx fs) ∧ H1 dx = none ∧ W (.ref (c.ca k)) (some dx) τ (upd (del H2 a) dx (.xd fs))) (fun _ _ _ => False) := by
  intro a ha
  refine ⟨a, c.ca k, v, rfl, upd_same, T, no, fun dx hdx hne => ⟨rfl, dx, _, upd_same, by rw [upd_ne hne, upd_same], by rw [upd_ne hne] at hdx; exact hdx, ?_⟩⟩
  rw [upd_ne hne] at hdx
  have eu : upd (del (upd (upd (upd H1 a (exo a (c.ca k) none)) dx (exd dx [("at", v)])) a (exo a (c.ca k) (some dx))) a) dx (.xd [("at", v)]) = upd H1 dx (.xd [("at", v)]) := by
    funext b
    by_cases hb : b = dx
    · subst hb; rw [upd_same, upd_same]
    · rw [upd_ne hb, upd_ne hb]
      by_cases hba : b = a
      · subst hba; rw [del_same, ha]
      · rw [del_ne hba, upd_ne hba, upd_ne hb, upd_ne hba]
  rw [eu]
  have s : Stp w1 H1 w1 (upd H1 dx (.xd [("at", v)])) := Stp.laid hdx
  refine q w1 _ τ (some dx) s (S1.laid hdx) (RS1.mono s) ?_
  simp only [RepX]
  exact ⟨trivial, dx, v, rfl, S1.fresh hdx, upd_same, Rep.mono s _ _ r⟩
theorem s_raise0 {P : Program} {k : Nat} {x m : Str} {j : Nat} {p p2 cp pos : Pos} (hc : X.calm = true) (hK : X.K = c.K) (tk : L2N.Takes X W) (R : PySem.W.excIn c.K (c.ca k) He.veBase "ValueError.__new__" = true ∧ PySem.W.keepIn c.K (.ref (c.ca k)) = true ∧ PySem.W.subIn c.K (.ref (c.ca k)) (.type "BaseException") = some true ∧ PySem.W.typeIn c.K (.ref (c.ca k)) = some (.type "type"))
    (hg : Gl X x) (hm : X.mg x = some (.ref (c.ca k))) (hdb : (x == ("__debug__" : Str)) = false) : PS X (.Raise (some (.Call (.Name x p) [.Constant (.str m) j p2] [] cp)) none pos) (tS c W fun σ M => .exn k [] σ M) := by
  rw [← hK] at R
  refine (L2N.ps_raise hc tk (L2N.pmk_own F.excBase_ValueError R.1 hm R.2.1 (raises_own R.2.2.1 R.2.2.2) hg hdb)).weak fun D τ H ⟨w, M, σ, S, RS, q⟩ => ?_
  exact q w H τ none Stp.refl S RS (by simp [RepX])
theorem s_raise1 {k : Nat} {df : Nat → Bool} {rk : Nat → Option Bool} {x : Str} {e : Expr} {p cp pos : Pos} {f : Sl → Hh → Out D} (hc : X.calm = true) (hK : X.K = c.K) (tk : L2N.Takes X W) (R : RkOk c rk df X.prog X.w X.mg X.base) (hk : rk k = some true) (hr : Room 2 X.A)
    (hg : Gl X x) (hm : X.mg x = some (.ref (c.ca k))) (hdb : (x == ("__debug__" : Str)) = false) (he : PE X e (tE c W f)) (hs : notStar e = true) : PS X (.Raise (some (.Call (.Name x p) [e] [] cp)) none pos) (tS c W fun σ M => (f σ M).st σ fun d M1 => .exn k [d] σ M1) := by
  obtain ⟨T, no, fI, fd, iC, tI, F1, _, hb, _⟩ := R.ow k hk
  have ha := pa_cons he pa_nil (star_eq hs)
  have T' := T
  have no' := no
  rw [← hK] at T' iC tI F1 hb
  refine (L2N.ps_raise hc tk (pmkN_oex (dvs := []) T' iC tI F1 hr hb .nil passes_none hg hm hdb ha (star_eq hs) rfl)).weak fun D τ H ⟨w, M, σ, S, RS, q⟩ => ?_
  refine (nxtE S RS q).imp fun v H1 ⟨w1, M1, d, s1, S1, RS1, r1, q1⟩ => ?_
  refine ⟨by simp, fun a ha => ?_⟩
  rw [hK]
  exact raise_mk S1 RS1 r1 T no q1 a ha
theorem s_raiseD {k : Nat} {df : Nat → Bool} {rk : Nat → Option Bool} {x : Str} {p cp pos : Pos} (hc : X.calm = true) (hK : X.K = c.K) (tk : L2N.Takes X W) (R : RkOk c rk df X.prog X.w X.mg X.base) (hk : rk k = some true) (hd : df k = true) (hr : Room 2 X.A)
    (hg : Gl X x) (hm : X.mg x = some (.ref (c.ca k))) (hdb : (x == ("__debug__" : Str)) = false) : PS X (.Raise (some (.Call (.Name x p) [] [] cp)) none pos) (tS c W fun σ M => .exn k [.non] σ M) := by
  obtain ⟨T, no, fI, fd, iC, tI, F1, _, _, hb⟩ := R.ow k hk
  replace hb := hb hd
  have T' := T
  rw [← hK] at T' iC tI F1 hb
  refine (L2N.ps_raise hc tk (pmk_oex0 (dvs := [.non]) T' iC tI F1 hr hb (.cons rfl .nil) passes_none hg hm hdb)).weak fun D τ H ⟨w, M, σ, S, RS, q⟩ => ?_
  refine (show [].length ≤ 1000 ∧ _ from ⟨by simp, fun a ha => ?_⟩)
  rw [hK]
  exact raise_mk S RS (rep_non.mpr rfl) T no q a ha
theorem s_raiseH0 {P : Program} {k : Nat} {x m : Str} {j : Nat} {p p2 cp pos : Pos} (hc : L2H.HotC X) (hK : X.K = c.K) (tk : Takes X W) (R : PySem.W.excIn c.K (c.ca k) He.veBase "ValueError.__new__" = true ∧ PySem.W.keepIn c.K (.ref (c.ca k)) = true ∧ PySem.W.subIn c.K (.ref (c.ca k)) (.type "BaseException") = some true ∧ PySem.W.typeIn c.K (.ref (c.ca k)) = some (.type "type"))
    (hg : Gl X x) (hm : X.mg x = some (.ref (c.ca k))) (hdb : (x == ("__debug__" : Str)) = false) : PS X (.Raise (some (.Call (.Name x p) [.Constant (.str m) j p2] [] cp)) none pos) (tS c W fun σ M => .exn k [] σ M) := by
  rw [← hK] at R
  refine (L2H.ps_raiseH hc tk (L2N.pmk_own F.excBase_ValueError R.1 hm R.2.1 (raises_own R.2.2.1 R.2.2.2) hg hdb)).weak fun D τ H ⟨w, M, σ, S, RS, q⟩ => ?_
  exact q w H τ none Stp.refl S RS (by simp [RepX])
theorem s_raiseH1 {k : Nat} {df : Nat → Bool} {rk : Nat → Option Bool} {x : Str} {e : Expr} {p cp pos : Pos} {f : Sl → Hh → Out D} (hc : L2H.HotC X) (hK : X.K = c.K) (tk : Takes X W) (R : RkOk c rk df X.prog X.w X.mg X.base) (hk : rk k = some true) (hr : L2H.RoomH 2 X.A)
    (hg : Gl X x) (hm : X.mg x = some (.ref (c.ca k))) (hdb : (x == ("__debug__" : Str)) = false) (he : PE X e (tE c W f)) (hs : notStar e = true) : PS X (.Raise (some (.Call (.Name x p) [e] [] cp)) none pos) (tS c W fun σ M => (f σ M).st σ fun d M1 => .exn k [d] σ M1) := by
  obtain ⟨T, no, fI, fd, iC, tI, _, FH, hb, _⟩ := R.ow k hk
  have ha := pa_cons he pa_nil (star_eq hs)
  have T' := T
  have no' := no
  rw [← hK] at T' iC tI FH hb
  refine (L2H.ps_raiseH hc tk (L2H.PMk5.pmk (L2H.pmk5_oexH T' iC tI FH hr hc hb passes_none hg hm ha hdb (star_eq hs) rfl))).weak fun D τ H ⟨w, M, σ, S, RS, q⟩ => ?_
  refine (nxtE S RS q).imp fun v H1 ⟨w1, M1, d, s1, S1, RS1, r1, q1⟩ => ?_
  refine ⟨by simp, fun a ha => ?_⟩
  rw [hK]
  have q2 := raise_mk S1 RS1 r1 T no q1 a ha
  rw [List.append_nil]
  exact q2
end
end Fw
namespace Fw
open PySem PySem.Spec PyProof.Rows L2
section
variable {X : Cx} {pins : List (Addr × Obj)} {σ : L2.St} {H : Hp} {s sI : Shared} {a : Addr}
theorem inv_track {o : HO} (I : Inv X pins σ H s) (J : Inv X pins σ H sI) (n : sI.heap.get? a = none) (hn : H a = none) (new : ObjOk X.prog X.w (upd H a o) s.heap a o) : Inv X pins σ (upd H a o) s := by
  have ne : ∀ b ob, sI.heap.get? b = some ob → b ≠ a := fun b ob e z => by rw [z, n] at e; cases e
  have ne0 : ∀ b ob, X.s_0.heap.get? b = some ob → b ∉ X.ex → b ≠ a := fun b ob e hx => by
    obtain ⟨o', e'⟩ := J.base.there b ob e hx
    exact ne b o' e'
  have neH : ∀ b u, H b = some u → b ≠ a := fun b u e z => by rw [z, hn] at e; cases e
  have nL : X.env.locals ≠ a := by
    obtain ⟨m, ⟨oL, _, _, e, _⟩, _⟩ := J.loc
    exact ne _ _ e
  refine ⟨I.ok, I.os, I.bare, ⟨I.base.keep, I.base.slot, fun b ob q m hx => ?_, I.base.there, fun b xs q => ?_, fun b ob v q => ?_, fun b ps q => ?_⟩, I.loc, I.cell, ?_, fun x c e => ?_, fun p hp => ?_, ?_, I.len⟩
  · rw [upd_ne (ne0 b ob q hx)]
    exact I.base.free b ob q m hx
  · have z := I.base.tups b xs q
    rw [upd_ne (neH b _ z)]; exact z
  · have z := I.base.frzs b ob v q
    rw [upd_ne (neH b _ z)]; exact z
  · obtain ⟨more, z⟩ := I.base.tbls b ps q
    exact ⟨more, by rw [upd_ne (neH b _ z)]; exact z⟩
  · rw [upd_ne nL]; exact I.free
  · obtain ⟨v, ⟨oc, e1, _⟩⟩ := J.cell x c e
    rw [upd_ne (ne c oc e1)]
    exact I.freeC x c e
  · obtain ⟨e1, h1, h2, h3, h4⟩ := I.pin p hp
    obtain ⟨e2, _⟩ := J.pin p hp
    exact ⟨e1, by rw [upd_ne (ne _ _ e2)]; exact h1, h2, h3, h4⟩
  · exact I.hok.laidN (fun _ _ z => z) hn new
theorem inv_suiteT (I : Inv X pins σ H s) : Inv (X.suite a (X.pn ++ pins)) [] σ H s :=
  ⟨I.ok.suite _ _, I.os, I.bare, I.base, I.loc, I.cell, I.free, I.freeC, fun p hp => I.pin p (by rw [List.append_nil] at hp; exact hp), I.hok, I.len⟩
theorem inv_unsuiteT {pn' : List (Addr × Obj)} (I : Inv (X.suite a (X.pn ++ pins)) pn' σ H s) (ok : X.Ok) : Inv X pins σ H s :=
  ⟨ok, I.os, I.bare, I.base, I.loc, I.cell, I.free, I.freeC, fun p hp => I.pin p (List.mem_append_left _ hp), I.hok, I.len⟩
theorem ext_ok {P : Program} {w : World} {h : Heap} {cls : Value} {d : Option Addr} {oe : Obj} {vs : Array Value} (e : h.get? a = some oe) (z : Zc cls d oe) (hd : oe.data = .fields vs) : ObjOk P w (upd H a (ExT cls d a)) h a (ExT cls d a) :=
  ⟨⟨oe, vs, e, z, hd⟩, ⟨oe, e⟩, fun h1 h2 ⟨oe', vs', e', z', hd'⟩ k => ⟨oe', vs', k oe' e', z', hd'⟩⟩
end
def wAsT (K : PySem.W.Frag) (c : Value) (i : Nat) (ts : TS) (Wout : WX) (D : Ends) : WX := fun cls d σ H =>
  ∃ b, PySem.W.exmOne K cls c = some b ∧ (b = true → ∀ a, H a = none → ts { nx := fun σ' H' => D.nx (σ'.set i none) H', rt := D.rt, bk := fun σ' H' => D.bk (σ'.set i none) H', ct := fun σ' H' => D.ct (σ'.set i none) H' } (σ.set i (some (.ref a))) (upd H a (ExT cls d a))) ∧
    (b = false → Wout cls d σ H)
section
variable {X : Cx} {x n : Str} {c : Value} {i : Nat} {body suite : List Stmt} {b₀ : Stmt} {np pos pos' : Pos} {tb : WX → TS} {ts : TS} {Wout : WX}
theorem ps_try_asT (hs : X.stack = X.env :: X.outer) (hf : X.env.frame = some X.env.locals) (hN : X.N.Nodup) (hi : X.N[i]? = some n) (hln : X.env.kindOf n = some .local) (hc : Names X x c) (tk : Takes X Wout)
    (hb : ∀ (W : WX) (pn : List (Addr × Obj)) (xe : Value → Shared → Prop), Takes (X.tr pn xe) W → PassesOwn (model X.prog X.w) X.A X.env xe → PSs (X.tr pn xe) body (tb W))
    (hsu : ∀ (a : Addr) (pn : List (Addr × Obj)), PSs (X.suite a pn) (b₀ :: suite) ts) :
    PS X (.Try body [.ExceptHandler (some (.Name x np)) (some n) (b₀ :: suite) pos'] [] [] pos) (fun D σ H => tb (wAsT X.K c i ts Wout D) D σ H) := by
  refine ⟨fun pins s σ H D I h => ?_⟩
  have ok := I.ok
  have hfr : X.A.frames = some (X.env :: X.outer) := by rw [ok.frames, hs]
  have hloc : Loc X.env.scope n := .inl hln
  refine wpAny_Try_except ?_
  refine wpAny_mono ((hb (wAsT X.K c i ts Wout D) (X.pn ++ pins) (fun e s₁ => wpAny (model X.prog X.w) X.A (noteFrame e X.env) (fun _ s₂ => wpAny (model X.prog X.w) X.A (setFlight e none) (fun _ s₃ =>
    wpAny (model X.prog X.w) X.A (handleBy e X.env [.ExceptHandler (some (.Name x np)) (some n) (b₀ :: suite) pos']) (SP X pins D) X.xe s₃) X.xe s₂) X.xe s₁) (fun u s' xx => ?_) PassesOwn.looking).run [] s σ H D (I.toTry _) h) (fun f s1 hsp => ?_) (fun e s1 he => he)
  ·
    obtain ⟨a, B, sI, pins', σ', H', cls, d, rfl, J', nb, up, sky, na, os, ag, b, hb1, hyes, hno⟩ := xx
    have J : Inv X pins σ' H' sI := J'.ofTry ok
    have sky' : Sky B (X.env :: X.outer) a (Zc cls d) X.env.locals s'.heap := by rw [← hs]; exact sky
    show wpAny (model X.prog X.w) X.A (noteFrame (.ref a) X.env) _ _ _
    refine Sky.land Zc.steady hfr hf sky' fun h3 fl3 up3 => ?_
    have J3 : Inv X pins σ' H' { s' with heap := h3 } := J.landed nb fl3.1 (up.trans up3) os ag
    obtain ⟨oe3, vs3, he3, hz3, hd3⟩ := fl3.there
    have notFr : ∀ {h : Heap} {o : Obj} {vs : Array Value}, h.FunFrames B (X.env :: X.outer) → h.get? a = some o → o.data = .fields vs → a ∉ frs (X.env :: X.outer) := fun {h o vs} ff e dd hm => by
      obtain ⟨_, o', e', hnf⟩ := ff.mem hm
      rw [e] at e'; cases e'
      exact hnf _ dd
    have nfr := notFr fl3.2.2.1 he3 hd3
    have nI : sI.heap.get? a = none := by
      cases q : sI.heap.get? a with
      | none => rfl
      | some o =>
        have z := nb a o q (by rw [hs]; exact nfr)
        rw [fl3.2.1] at z; cases z
    have nL : a ≠ X.env.locals := fun z => nfr (List.mem_filterMap.mpr ⟨X.env, List.mem_cons_self, by rw [hf, z]⟩)
    have nF : a ∉ X.fs := fun hm => by
      obtain ⟨e, he, q⟩ := List.mem_filterMap.mp hm
      exact nfr (List.mem_filterMap.mpr ⟨e, List.mem_cons_of_mem _ he, q⟩)
    have S3 := J3.suite he3 hd3 na nL nF
    refine wpAny_handleBy_cons (codeAny_handlers_test ?_) (by intro q; cases q)
    have LT : PySem.W.Looks (model X.prog X.w) h3 (typeOf (.ref a)) cls := fun A Q E s k q => wpAny_typeOf_ref (k _ _ he3) (by rw [hz3.1]; exact q)
    have LM := PySem.W.exm_one (M := model X.prog X.w) (J3.kIn) LT hb1
    have test : ∀ {Q : Value → Shared → Prop} {E : Value → Shared → Prop}, Q c { s' with heap := h3 } → wpAny (model X.prog X.w) (X.A.mark (some (.ref a))) (eval (.Name x np) X.env) Q E { s' with heap := h3 } := fun {Q E} q => by
      obtain ⟨hg, hdbg, hm | ⟨hm, hv, hnn⟩⟩ := hc
      · exact ld_glob (X := X.suite a ((a, oe3) :: (X.pn ++ pins))) S3 hg hm q hdbg
      · exact ld_blt (X := X.suite a ((a, oe3) :: (X.pn ++ pins))) S3 hg hm hv q hnn hdbg
    refine test (LM.here ?_)
    cases b with
    | true =>
      refine codeAny_handlers_suite_as ?_
      refine HandSPX.lands_againZ fl3 fun h4 fl4 up4 => ?_
      have J4 : Inv X pins σ' H' { s' with heap := h4 } := J.landed nb fl4.1 ((up.trans up3).trans up4) os ag
      obtain ⟨oe4, vs4, he4, hz4, hd4⟩ := fl4.there
      have T4 : Inv X pins σ' (upd H' a (ExT cls d a)) { s' with heap := h4 } := inv_track J4 J nI na (ext_ok he4 hz4 hd4)
      have S4 : Inv (X.suite a (X.pn ++ pins)) [] σ' (upd H' a (ExT cls d a)) { s' with heap := h4 } := inv_suiteT T4
      refine store_ok (X := X.suite a (X.pn ++ pins)) (v := .ref a) S4 hN hi hloc rfl (fun s5 S5 => ?_) (.inr hln)
      refine wpAny_mono ((hsu a (X.pn ++ pins)).run [] s5 _ _ _ S5 (hyes rfl a na)) (fun f s6 hsp => ?_) (fun _ _ z => False.elim z)
      have end_ : ∀ {σ6 : L2.St} {H6 : Hp} {Q : Shared → Prop}, Inv (X.suite a (X.pn ++ pins)) [] σ6 H6 s6 → (∀ s7, Inv X pins (σ6.set i none) H6 s7 → Q s7) →
          wpAny (model X.prog X.w) X.A (do bindName X.env n .none; unbindBehindTheSuite X.env n pos') (fun _ s7 => Q s7) X.xe s6 := fun {σ6 H6 Q} S6 hq => gone_ok (inv_unsuiteT S6 ok) hN hi hln hq
      cases f with
      | next =>
        obtain ⟨σ6, H6, S6, q6⟩ := hsp
        exact end_ S6 fun s7 J7 => ⟨_, _, J7, q6⟩
      | brk =>
        obtain ⟨σ6, H6, S6, q6⟩ := hsp
        exact end_ S6 fun s7 J7 => ⟨_, _, J7, q6⟩
      | cont =>
        obtain ⟨σ6, H6, S6, q6⟩ := hsp
        exact end_ S6 fun s7 J7 => ⟨_, _, J7, q6⟩
      | ret u =>
        obtain ⟨v6, σ6, H6, S6, r6, q6⟩ := hsp
        exact end_ S6 fun s7 J7 => ⟨_, _, _, J7, r6, q6⟩
    | false =>
      show wpAny _ X.A (handleBy (.ref a) X.env []) _ _ _
      refine wpAny_handleBy_nil ?_
      obtain ⟨k1, k2, k3, oe, vs, T, oT, ts', he, hz, hd, h1, hr⟩ := id fl3
      unfold PySem.passOn
      refine wpAny_bind (wpAny_field he hd h1 ?_)
      rw [if_neg (show ¬ ((Value.ref T == Value.none) = true) from by simp)]
      have fin : wpAny (model X.prog X.w) X.A (setFlight (.ref a) X.env.frame) (fun _ s4 => wpAny (model X.prog X.w) X.A (throw (.ref a) : Sem Flow) (SP X pins D) X.xe s4) X.xe { s' with heap := h3 } := by
        rw [hf]
        refine HandSPX.setFlight_upZ fl3 fun h4 hh4 up4 => wpAny_throw (tk _ _ ?_)
        exact ⟨a, B, sI, pins, σ', H', cls, d, rfl, J, nb, (up.trans up3).trans up4, .inr (.inr (by rw [hs]; exact hh4)), na, os, ag, hno rfl⟩
      first
        | exact wpAny_bind (wpAny_pure (wpAny_bind fin))
        | exact wpAny_bind fin
  · cases f with
    | next =>
      obtain ⟨σ', H', J', q⟩ := hsp
      exact wpAny_execs_nil ⟨σ', H', J'.ofTry ok, q⟩
    | brk =>
      obtain ⟨σ', H', J', q⟩ := hsp
      exact ⟨σ', H', J'.ofTry ok, q⟩
    | cont =>
      obtain ⟨σ', H', J', q⟩ := hsp
      exact ⟨σ', H', J'.ofTry ok, q⟩
    | ret u =>
      obtain ⟨v, σ', H', J', r, q⟩ := hsp
      exact ⟨v, σ', H', J'.ofTry ok, r, q⟩
end
section
variable {c : Ct} {W : WX} {X : Cx}
theorem s_try_as {tbf sf : Sl → Hh → OutS} {ok : Nat → Bool} {sup : Nat → Nat → Bool} {cc i : Nat} {x n : Str} {body suite : List Stmt} {b₀ : Stmt} {np pos pos' : Pos} (hs : X.stack = X.env :: X.outer) (hf : X.env.frame = some X.env.locals) (hN : X.N.Nodup) (hi : X.N[i]? = some n) (hln : X.env.kindOf n = some .local) (hc : Names X x (.ref (c.ca cc))) (tk : Takes X W)
    (hx : ∀ y, ok y = true → PySem.W.exmOne X.K (.ref (c.ca y)) (.ref (c.ca cc)) = some (sup y cc))
    (hb : ∀ (W : WX) (pn : List (Addr × Obj)) (xe : Value → Shared → Prop), Takes (X.tr pn xe) W → PassesOwn (model X.prog X.w) X.A X.env xe → PSs (X.tr pn xe) body (tS c W tbf))
    (hsu : ∀ (a : Addr) (pn : List (Addr × Obj)), PSs (X.suite a pn) (b₀ :: suite) (tS c WF sf)) :
    PS X (.Try body [.ExceptHandler (some (.Name x np)) (some n) (b₀ :: suite) pos'] [] [] pos) (tS c W fun σ M => catchS ok sup cc (some i) sf (tbf σ M)) := by
  refine (ps_try_asT hs hf hN hi hln hc tk hb hsu).weak fun D τ H ⟨w, M, σ, S, RS, q⟩ => ?_
  refine ⟨w, M, σ, S, RS, ?_⟩
  dsimp only at q
  cases e : tbf σ M with
  | bad => rw [e] at q; exact q.elim
  | ok f σ1 M1 =>
    rw [e] at q
    cases f <;> exact q
  | exn y fs σ1 M1 =>
    rw [e] at q
    unfold catchS at q
    simp only at q
    split at q
    · rename_i hok
      intro w1 H1 τ1 dd s1 S1 RS1 rx
      refine ⟨sup y cc, hx y hok, fun hy a ha => ?_, fun hy => ?_⟩
      · rw [if_pos hy] at q
        have s2 : Stp w1 H1 w1 (upd H1 a (ExT (.ref (c.ca y)) dd a)) := Stp.laid ha
        have S2 := S1.laid (o := ExT (.ref (c.ca y)) dd a) ha
        have rr : Rep c w1 (upd H1 a (ExT (.ref (c.ca y)) dd a)) (.exc y fs) (.ref a) := rep_exc.mpr ⟨a, dd, rfl, S1.fresh ha, upd_same, RepX.mono s2 _ _ rx⟩
        refine ⟨w1, M1, _, S2, (RS1.mono s2).set rr, ?_⟩
        replace q := OkS.lift q (s1.trans s2)
        cases e2 : sf (σ1.set i (some (.exc y fs))) M1 with
        | bad => rw [e2] at q; exact q.elim
        | exn _ _ _ _ => rw [e2] at q; exact q.elim
        | ok f σ2 M2 =>
          rw [e2] at q
          cases f with
          | nx => exact fun w' H' τ' s' S' R' => q w' H' _ s' S' R'.unset
          | brk => exact fun w' H' τ' s' S' R' => q w' H' _ s' S' R'.unset
          | cnt => exact fun w' H' τ' s' S' R' => q w' H' _ s' S' R'.unset
          | ret d => exact q
      · rw [if_neg (by rw [hy]; decide)] at q
        exact q w1 H1 τ1 dd s1 S1 RS1 rx
    · exact q.elim
theorem s_try_only {tbf sf : Sl → Hh → OutS} {ok : Nat → Bool} {sup : Nat → Nat → Bool} {cc : Nat} {x : Str} {body suite : List Stmt} {b₀ : Stmt} {np pos pos' : Pos} (hs : X.stack = X.env :: X.outer) (hf : X.env.frame = some X.env.locals) (hc : Names X x (.ref (c.ca cc))) (tk : Takes X W)
    (hx : ∀ y, ok y = true → PySem.W.exmOne X.K (.ref (c.ca y)) (.ref (c.ca cc)) = some (sup y cc))
    (hb : ∀ (W : WX) (pn : List (Addr × Obj)) (xe : Value → Shared → Prop), Takes (X.tr pn xe) W → PassesOwn (model X.prog X.w) X.A X.env xe → PSs (X.tr pn xe) body (tS c W tbf))
    (hsu : ∀ (a : Addr) (pn : List (Addr × Obj)), PSs (X.suite a pn) (b₀ :: suite) (tS c WF sf)) :
    PS X (.Try body [.ExceptHandler (some (.Name x np)) none (b₀ :: suite) pos'] [] [] pos) (tS c W fun σ M => catchS ok sup cc none sf (tbf σ M)) := by
  refine (ps_try_only (ts := fun _ _ _ => tS c WF sf) hs hf hc tk hb fun a oe cls d pn _ _ => hsu a _).weak fun D τ H ⟨w, M, σ, S, RS, q⟩ => ?_
  refine ⟨w, M, σ, S, RS, ?_⟩
  dsimp only at q
  cases e : tbf σ M with
  | bad => rw [e] at q; exact q.elim
  | ok f σ1 M1 =>
    rw [e] at q
    cases f <;> exact q
  | exn y fs σ1 M1 =>
    rw [e] at q
    unfold catchS at q
    simp only at q
    split at q
    · rename_i hok
      intro w1 H1 τ1 dd s1 S1 RS1 rx
      refine ⟨sup y cc, hx y hok, fun hy a ha => ?_, fun hy => ?_⟩
      · rw [if_pos hy] at q
        refine ⟨w1, M1, _, S1, RS1, ?_⟩
        replace q := OkS.lift q s1
        cases e2 : sf σ1 M1 with
        | bad => rw [e2] at q; exact q.elim
        | exn _ _ _ _ => rw [e2] at q; exact q.elim
        | ok f σ2 M2 =>
          rw [e2] at q
          cases f <;> exact q
      · rw [if_neg (by rw [hy]; decide)] at q
        exact q w1 H1 τ1 dd s1 S1 RS1 rx
    · exact q.elim
theorem s_tryR {tbf g : Sl → Hh → OutS} {ok : Nat → Bool} {sup : Nat → Nat → Bool} {cc : Nat} {x : Str} {body suite : List Stmt} {b₀ : Stmt} {np pos pos' : Pos} (hs : X.stack = X.env :: X.outer) (hf : X.env.frame = some X.env.locals) (hc : Names X x (.ref (c.ca cc)))
    (hpa : ∀ hd : Option Value, PassesOwnAt (model X.prog X.w) (X.A.mark hd) X.A X.env X.xe) (tk : Takes X W)
    (hx : ∀ y, ok y = true → PySem.W.exmOne X.K (.ref (c.ca y)) (.ref (c.ca cc)) = some (sup y cc))
    (hb : ∀ (W : WX) (pn : List (Addr × Obj)) (xe : Value → Shared → Prop), L2N.Takes (X.tr pn xe) W → PassesOwn (model X.prog X.w) X.A X.env xe → PSs (X.tr pn xe) body (tS c W tbf))
    (hsu : ∀ (a : Addr) (oe : Obj) (pn : List (Addr × Obj)), Takes (L2H.suiteX X a ((a, oe) :: pn)) W → L2H.HotC (L2H.suiteX X a ((a, oe) :: pn)) → PSs (L2H.suiteX X a ((a, oe) :: pn)) (b₀ :: suite) (tS c W g)) :
    PS X (.Try body [.ExceptHandler (some (.Name x np)) none (b₀ :: suite) pos'] [] [] pos) (tS c W fun σ M => catchR ok sup cc g (tbf σ M)) := by
  refine (L2H.ps_try_onlyX (ts := fun _ _ _ => tS c W g) hs hf hc hpa tk (fun W' pn xe tn _ own => hb W' pn xe tn own) (fun a oe cls d pn _ _ t hot => hsu a oe pn t hot)).weak fun D τ H ⟨w, M, σ, S, RS, q⟩ => ?_
  refine ⟨w, M, σ, S, RS, ?_⟩
  dsimp only at q
  cases e : tbf σ M with
  | bad => rw [e] at q; exact q.elim
  | ok f σ1 M1 =>
    rw [e] at q
    cases f <;> exact q
  | exn y fs σ1 M1 =>
    rw [e] at q
    unfold catchR at q
    simp only at q
    split at q
    · rename_i hok
      intro w1 H1 τ1 dd s1 S1 RS1 rx
      refine ⟨sup y cc, hx y hok, fun hy a ha => ?_, fun hy => ?_⟩
      · rw [if_pos hy] at q
        exact ⟨w1, M1, _, S1, RS1, OkS.lift q s1⟩
      · rw [if_neg (by rw [hy]; decide)] at q
        exact q w1 H1 τ1 dd s1 S1 RS1 rx
    · exact q.elim
end
end Fw
namespace Fw
open PySem PySem.Spec PyProof.Rows L2
theorem s_no {c : Ct} {W : WX} {X : Cx} {P : Pg} {Φ : Orc} {x : Stmt} : PS X x (tS c W (exS P Φ .no)) := by
  rw [show exS P Φ .no = fun _ _ => .bad from by funext σ M; simp only [exS]]
  exact ⟨fun _ _ _ _ _ _ ⟨_, _, _, _, _, q⟩ => q.elim⟩
def isStar : Expr → Bool
  | .Starred .. => true
  | _ => false
def swName (sc : Scope) (line : Nat) : Expr → Option Str
  | .Name id pos => if sc.names.lookup id == some .local && pos.line == line then some id else none
  | _ => none
def swV (sc : Scope) (ts vs : List Expr) : Option (Option (List Str)) :=
  if !(ts.length == 2 || ts.length == 3) || vs.length != ts.length then some none
  else if vs.any isStar then some none
  else if (ts.filterMap (swName sc ((ts.head?.map (·.pos.line)).getD 0))).length != ts.length || (ts.filterMap (swName sc ((ts.head?.map (·.pos.line)).getD 0))).eraseDups.length != (ts.filterMap (swName sc ((ts.head?.map (·.pos.line)).getD 0))).length then some none
  else if vs.all (foldedForSure 8) then some none
  else if vs.all (constantsAlone 8) then none
  else some (some (ts.filterMap (swName sc ((ts.head?.map (·.pos.line)).getD 0))))
theorem swV_core {sc : Scope} {ts vs : List Expr} {r : Option (List Str)} {p : Expr → Bool} {q : Expr → Option Str} (hp : p = isStar) (hq : q = swName sc ((ts.head?.map (·.pos.line)).getD 0)) (h : swV sc ts vs = some r) :
    ((if (!(ts.length == 2 || ts.length == 3) || vs.length != ts.length || false) = true then pure none
      else if vs.any p = true then pure none
      else if ((ts.filterMap q).length != ts.length || (ts.filterMap q).eraseDups.length != (ts.filterMap q).length) = true then pure none
      else if vs.all (foldedForSure 8) = true then pure none
      else if vs.all (constantsAlone 8) = true then do
        unsupported "assign.tuple-of-constant-expressions:order-of-the-stores"
        pure (some (ts.filterMap q))
      else pure (some (ts.filterMap q)) : Sem (Option (List Str)))) = pure r := by
  subst hp hq
  rw [Bool.or_false]
  unfold swV at h
  split at h
  · rename_i h1
    cases h
    rw [if_pos h1]
  · rename_i h1
    rw [if_neg h1]
    split at h
    · rename_i h2
      cases h
      rw [if_pos h2]
    · rename_i h2
      rw [if_neg h2]
      split at h
      · rename_i h3
        cases h
        rw [if_pos h3]
      · rename_i h3
        rw [if_neg h3]
        split at h
        · rename_i h4
          cases h
          rw [if_pos h4]
        · rename_i h4
          rw [if_neg h4]
          split at h
          · cases h
          · rename_i h5
            cases h
            rw [if_neg h5]
theorem swV_ok {sc : Scope} {env : Env} {ts vs : List Expr} {k k2 : Nat} {p p2 : Pos} {r : Option (List Str)} (he : env.scope = sc) (hk : sc.kind = .function) (h : swV sc ts vs = some r) : swappedStores [.Tuple ts k p] (.Tuple vs k2 p2) env = pure r := by
  have hb : env.blockKind = .function := by unfold Env.blockKind; rw [he, hk]; rfl
  unfold swappedStores
  simp only [hb, bne_self_eq_false]
  refine swV_core ?_ ?_ h
  · funext x
    cases x <;> rfl
  · funext x
    cases x <;> first | rfl | simp [swName, Env.kindOf, he]
def swC (sc scope : Scope) (y : Str) (py pos : Pos) : Bool := sc.names.lookup y == some .local && py.line == pos.line && !(scope.names.any fun (n, k) => n == y && (k == .local || k == .cell))
theorem swC_ok {sc scope : Scope} {env : Env} {elt : Expr} {gs : List Comprehension} {y : Str} {py pos : Pos} {l : Nat} (he : env.scope = sc) (hk : sc.kind = .function) : swapsWith (.ListComp elt gs scope pos) (some (.Name y py)) l env = pure (swC sc scope y py pos) := by
  have hb : env.blockKind = .function := by unfold Env.blockKind; rw [he, hk]; rfl
  unfold swapsWith swC
  simp only [hb, Env.kindOf, he, Expr.pos]
  rfl
def parOk (N : List Str) (sc : Scope) (is : List Nat) (ts vs : List Expr) : Bool := match is, ts, vs with
  | [i, j], [.Name x _, .Name y _], [_, _] => decide (N[i]? = some x) && decide (N[j]? = some y) && decide (i ≠ j) && decide (sc.names.lookup x = some .local) && decide (sc.names.lookup y = some .local) && decide (swV sc ts vs = some (some [x, y]))
  | [i, j, l], [.Name x _, .Name y _, .Name z _], [_, _, _] => decide (N[i]? = some x) && decide (N[j]? = some y) && decide (N[l]? = some z) && decide (i ≠ j) && decide (i ≠ l) && decide (j ≠ l) && decide (sc.names.lookup x = some .local) && decide (sc.names.lookup y = some .local) && decide (sc.names.lookup z = some .local) && decide (swV sc ts vs = some (some [x, y, z]))
  | _, _, _ => false
def swNo (sc : Scope) (es : List Expr) : Expr → Bool
  | .Tuple vs _ _ => decide (swV sc es vs = some none)
  | _ => true
def isLc : Expr → Bool
  | .ListComp .. => true
  | _ => false
def isCompE : E → Bool
  | .comp .. => true
  | _ => false
def chkAsg (tb : Tb) (N : List Str) (sc : Scope) (t : T) (e : E) (tg y : Expr) : Bool := match t with
  | .name i => match tg with
    | .Name x _ => decide (N[i]? = some x) && storable sc true x && (notComp y || (isLc y && isCompE e)) && chkE tb N sc e y
    | _ => false
  | .names _ is => match tg with
    | .Tuple es _ _ => chkNs N sc true is es && noSet y && swNo sc es y && chkE tb N sc e y
    | _ => false
  | .sub o i => match tg with
    | .Subscript p q _ => chkE tb N sc o p && chkE tb N sc i q && notSlice q && noSet y && chkE tb N sc e y
    | _ => false
  | .fld o f => match tg with
    | .Attribute p n _ => decide (tb.an[f]? = some n) && chkE tb N sc o p && noSet y && chkE tb N sc e y
    | _ => false
  | .flds i fs => match tg with
    | .Tuple es _ _ => chkFls tb.an N sc i fs es && noSet y && swNo sc es y && chkE tb N sc e y
    | _ => false
def litE : E → Bool
  | .lit _ => true
  | _ => false
def simE : E → Bool
  | .var _ => true
  | .lit _ => true
  | .tup es => es.all litE
  | _ => false
def isVarE : E → Bool
  | .var _ => true
  | _ => false
def chkSu (tb : Tb) (N : List Str) (sc : Scope) : S → Stmt → Bool
  | .asg (.name i) e, .Assign [.Name x _] y _ => decide (N[i]? = some x) && storable sc true x && simE e && notComp y && chkE tb N sc e y
  | .retN, .Return none _ => true
  | .ret e, .Return (some y) _ => simE e && chkE tb N sc e y
  | .no, _ => true
  | _, _ => false
def chkSus (tb : Tb) (N : List Str) (sc : Scope) : List S → List Stmt → Bool
  | [], [] => true
  | s :: r, x :: xs => chkSu tb N sc s x && chkSus tb N sc r xs
  | _, _ => false
def raiseOk (tb : Tb) (c : Nat) (es : List E) (xs : List Expr) : Bool := match tb.rk c with
  | some false => match es, xs with
    | [], [.Constant (.str _) _ _] => true
    | _, _ => false
  | some true => match es, xs with
    | [_], [_] => true
    | [.lit .non], [] => tb.df c
    | _, _ => false
  | none => false
def slotOk (N : List Str) (sc : Scope) : Option Nat → Option Str → Bool
  | none, none => true
  | some i, some n => decide (N[i]? = some n) && decide (sc.names.lookup n = some .local)
  | _, _ => false
mutual
def chkS (tb : Tb) (N : List Str) (sc : Scope) : S → Stmt → Bool
  | .asg t e, x => match x with
    | .Assign [tg] y _ => chkAsg tb N sc t e tg y
    | _ => false
  | .par is es, x => match x with
    | .Assign [.Tuple ts _ _] (.Tuple vs _ _) _ => parOk N sc is ts vs && chkL tb N sc es vs
    | _ => false
  | .expr e, x => match x with
    | .Expr y _ => chkE tb N sc e y && notComp y
    | _ => false
  | .ite c a b, x => match x with
    | .If y p q _ => chkE tb N sc c y && tst c && chkSs tb N sc a p && chkSs tb N sc b q
    | _ => false
  | .whl c b, x => match x with
    | .While y p [] _ => chkE tb N sc c y && tst c && chkSs tb N sc b p
    | _ => false
  | .loop tg k its b, x => match x with
    | .For t iter p [] _ => chkTg N sc true tg t && notSet iter && (match itArgs tb sc k t iter with | some xs => chkL tb N sc its xs | none => false) && chkSs tb N sc b p
    | _ => false
  | .ret e, x => match x with
    | .Return (some y) _ => chkE tb N sc e y
    | _ => false
  | .retN, x => match x with
    | .Return none _ => true
    | _ => false
  | .retX _ tg kk its e, x => match x with
    | .Return (some (.ListComp y [⟨t, iter, [], 0⟩] scope _)) _ => blkC N sc scope (ownOf' tg t) && decide ((ownOf' tg t).map (·.2) = tg) && chkTg N (relS scope sc) false tg t && notSet iter && (match itArgs tb sc kk t iter with | some xs => chkL tb N sc its xs | none => false) && chkE tb N (relS scope sc) e y
    | _ => false
  | .raise c es, x => match x with
    | .Raise (some (.Call (.Name x _) xs [] _)) none _ => isGl sc x && decide (tb.cn.lookup x = some c) && plainName x && raiseOk tb c es xs && (xs.isEmpty || decide (tb.rk c = some false) || chkL tb N sc es xs)
    | _ => false
  | .try_ b c slot h, x => match x with
    | .Try body [.ExceptHandler (some (.Name x _)) n suite _] [] [] _ => isGl sc x && decide (tb.cn.lookup x = some c) && plainName x && tb.P.ok c && slotOk N sc slot n && !h.isEmpty && chkSus tb N sc h suite && chkSs tb N sc b body
    | _ => false
  | .tryR b c c2 es, x => match x with
    | .Try body [.ExceptHandler (some (.Name x _)) none [.Raise (some (.Call (.Name y _) xs [] _)) none _] _] [] [] _ => isGl sc x && decide (tb.cn.lookup x = some c) && plainName x && tb.P.ok c && isGl sc y && decide (tb.cn.lookup y = some c2) && plainName y && raiseOk tb c2 es xs && es.all isVarE && (decide (tb.rk c2 = some false) || chkL tb N sc es xs) && chkSs (coldT tb) N sc b body
    | _ => false
  | .brk, x => match x with
    | .Break _ => true
    | _ => false
  | .cnt, x => match x with
    | .Continue _ => true
    | _ => false
  | .pass, x => match x with
    | .Pass _ => true
    | .Expr (.Constant (.str _) _ _) _ => true
    | _ => false
  | .loopD tg i b, x => match x with
    | .For t iter p [] _ => chkTg N sc true tg t && chkVar N sc i iter && chkSs tb N sc b p
    | _ => false
  | .no, _ => true
def chkSs (tb : Tb) (N : List Str) (sc : Scope) : List S → List Stmt → Bool
  | [], xs => xs.isEmpty
  | s :: r, xs => match xs with
    | x :: xs => chkS tb N sc s x && chkSs tb N sc r xs
    | [] => false
end
def FnsOk (c : Ct) (tb : Tb) (P : Program) (w : World) (mg : Str → Option Value) (base : Heap) (CX : CXT) (lvl : Nat) (Φ : Orc) : Prop :=
  ObOk c tb.P tb.an tb.mn tb.on Φ lvl CX P w mg base ∧ ∀ x f, (x, f) ∈ tb.fn → ∃ a fd ps, mg x = some (.ref a) ∧ PySem.W.keepIn c.K (.ref a) = true ∧ Binds c.K fd ps [] ∧ FnOk P w c.K mg base CX lvl a fd ps (spF c Φ f)
structure SOk (c : Ct) (tb : Tb) (Φ : Orc) (lvl : Nat) (CX : CXT) (md : Nat) (N : List Str) (sc : Scope) (W : WX) (X : Cx) : Prop where
  x : XOk c tb Φ lvl CX N sc true W X
  own : PassesOwn (model X.prog X.w) X.A X.env X.xe
  kind : sc.kind = .function
  mdle : md ≤ 2
  cx : 1 ≤ md → CX = L2.CX X.prog X.w
  cxN : md = 0 → CX = L2N.CX X.prog X.w
  tk : 1 ≤ md → Takes X W
  tkN : L2N.Takes X W
  ownAt : md = 2 → ∀ hd : Option Value, PassesOwnAt (model X.prog X.w) (X.A.mark hd) X.A X.env X.xe
  cold : md = 2 → FnsOk c (coldT tb) X.prog X.w X.mg X.base (L2N.CX X.prog X.w) lvl Φ
  rk : RkOk c tb.rk tb.df X.prog X.w X.mg X.base
  lv : 3 ≤ lvl
  hs : X.stack = X.env :: X.outer
  hf : X.env.frame = some X.env.locals
section
variable {c : Ct} {tb : Tb} {Φ : Orc} {lvl : Nat} {CX : CXT} {md : Nat}
theorem comp_parts {m : Bool} {tg : List Nat} {kk : ItK} {its : List E} {d : Option E} {e : E} {N : List Str} {sc : Scope} {fb : Bool} {W : WX} {X : Cx} {y : Expr} {gs : List Comprehension} {scope : Scope} {pos : Pos} (h : XOk c tb Φ lvl CX N sc fb W X) (k : chkE tb N sc (.comp m tg kk its d e) (.ListComp y gs scope pos) = true) :
    ∃ t iter ifs wi g tt te own, gs = [⟨t, iter, ifs, 0⟩] ∧ PI X t iter wi ∧ BlkOk X.N X.env.scope scope own ∧
      (∀ (s : Shared) (H : Hp) (C : Addr) (cl : List (Str × Addr)) (fp : List Addr), PG (X.blk s H scope (compEnvC scope cl C X.env) fp) t g) ∧ (∀ (s : Shared) (H : Hp) (C : Addr) (cl : List (Str × Addr)) (fp : List Addr), PTs (X.blk s H scope (compEnvC scope cl C X.env) fp) ifs tt) ∧
      (∀ (s : Shared) (H : Hp) (C : Addr) (cl : List (Str × Addr)) (fp : List Addr), PE (X.blk s H scope (compEnvC scope cl C X.env) fp) y te) ∧ (∀ x, foldedSetIterable iter X.env x = pure x) ∧
      ∀ τ H Q, tE c W (evE tb.P Φ (.comp m tg kk its d e)) τ H Q → tLc wi g tt te (own.map (·.2)) τ H Q := by
  rcases gs with _ | ⟨⟨t, iter, ifs, asy⟩, _ | ⟨_, _⟩⟩
  · simp [chkE] at k
  · by_cases ha : asy = 0
    · subst ha
      unfold chkE at k; simp only [Bool.and_eq_true, decide_eq_true_eq] at k
      obtain ⟨⟨⟨⟨⟨⟨k1, k2⟩, k3⟩, k4⟩, k5⟩, k6⟩, k7⟩ := k
      split at k5
      · rename_i xs ei
        have z := soundL its h k5
        have pi := it_ok h ei z.1 z.2.1 z.2.2
        have hg : ∀ (s : Shared) (H : Hp) (C : Addr) (cl : List (Str × Addr)) (fp : List Addr), PG (X.blk s H scope (compEnvC scope cl C X.env) fp) t (tG c tg) := fun s H C cl fp =>
          (h.blk scope s H C cl fp).st.tg h.calm h.K k3
        have he : ∀ (s : Shared) (H : Hp) (C : Addr) (cl : List (Str × Addr)) (fp : List Addr), PE (X.blk s H scope (compEnvC scope cl C X.env) fp) y (tE c WF (evE tb.P Φ e)) := fun s H C cl fp =>
          (soundE e (h.blk scope s H C cl fp) k7).1
        have bk : BlkOk X.N X.env.scope scope (ownOf' tg t) := by rw [h.st.hN, h.st.sc]; exact blkOk_by k1
        have hs : ∀ x, foldedSetIterable iter X.env x = pure x := fun x => by cases iter <;> first | rfl | (simp [notSet] at k4)
        have go : ∀ (cf : Option (Sl → Hh → Out D)), (∀ (s : Shared) (H : Hp) (C : Addr) (cl : List (Str × Addr)) (fp : List Addr), PTs (X.blk s H scope (compEnvC scope cl C X.env) fp) ifs (tIfs c cf)) →
            evE tb.P Φ (.comp m tg kk its d e) = compE m tg kk (evL tb.P Φ its) cf (evE tb.P Φ e) → ∃ t' iter' ifs' wi g tt te own, [(⟨t, iter, ifs, 0⟩ : Comprehension)] = [⟨t', iter', ifs', 0⟩] ∧ PI X t' iter' wi ∧ BlkOk X.N X.env.scope scope own ∧
              (∀ (s : Shared) (H : Hp) (C : Addr) (cl : List (Str × Addr)) (fp : List Addr), PG (X.blk s H scope (compEnvC scope cl C X.env) fp) t' g) ∧ (∀ (s : Shared) (H : Hp) (C : Addr) (cl : List (Str × Addr)) (fp : List Addr), PTs (X.blk s H scope (compEnvC scope cl C X.env) fp) ifs' tt) ∧
              (∀ (s : Shared) (H : Hp) (C : Addr) (cl : List (Str × Addr)) (fp : List Addr), PE (X.blk s H scope (compEnvC scope cl C X.env) fp) y te) ∧ (∀ x, foldedSetIterable iter' X.env x = pure x) ∧
              ∀ τ H Q, tE c W (evE tb.P Φ (.comp m tg kk its d e)) τ H Q → tLc wi g tt te (own.map (·.2)) τ H Q := by
          intro cf ht ee
          refine ⟨t, iter, ifs, _, _, _, _, ownOf' tg t, rfl, pi, bk, hg, ht, he, hs, fun τ H Q q => ?_⟩
          rw [k2]
          rw [ee] at q
          exact comp_of q
        cases d with
        | none =>
          simp only [List.isEmpty_iff] at k6
          subst k6
          exact go none (fun s H C cl fp => pts_nil) (by funext σ M; simp only [evE] <;> rfl)
        | some d =>
          simp only at k6
          split at k6
          · rename_i zz
            rw [Bool.and_eq_true] at k6
            exact go (some (evE tb.P Φ d)) (fun s H C cl fp => pts_one ((soundE d (h.blk scope s H C cl fp) k6.1).2 k6.2)) (by funext σ M; simp only [evE] <;> rfl)
          · cases k6
      · cases k5
    · exfalso
      revert k
      unfold chkE
      split
      · rename_i e0; cases e0; exact absurd rfl ha
      · intro z; cases z
  · simp [chkE] at k
theorem asg_ok {N : List Str} {sc : Scope} {W : WX} {X : Cx} {t : T} {e : E} {tg y : Expr} {pos : Pos} (h : SOk c tb Φ lvl CX md N sc W X) (k : chkAsg tb N sc t e tg y = true) : PS X (.Assign [tg] y pos) (tS c W (exS tb.P Φ (.asg t e))) := by
  have hnd : X.N.Nodup := by rw [h.x.st.hN]; exact h.x.st.nd
  cases t with
  | name i =>
    cases tg with
    | Name x px =>
      simp only [chkAsg, Bool.and_eq_true, decide_eq_true_eq] at k
      obtain ⟨⟨⟨k1, k2⟩, k3⟩, k4⟩ := k
      have ee : exS tb.P Φ (.asg (.name i) e) = fun σ M => (evE tb.P Φ e σ M).st σ fun d M1 => .ok .nx (σ.set i (some d)) M1 := by funext σ M; simp only [exS]
      rw [ee]
      have z := soundE e h.x k4
      have hi : X.N[i]? = some x := by rw [h.x.st.hN]; exact k1
      have hx : Loc X.env.scope x := by
        unfold storable at k2
        rw [h.x.st.sc]
        split at k2
        · exact .inl (by assumption)
        · exact .inr (by assumption)
        · cases k2
      have plain : swapsWith y (some (.Name x px)) pos.line X.env = pure false → PS X (.Assign [.Name x px] y pos) (tS c W fun σ M => (evE tb.P Φ e σ M).st σ fun d M1 => .ok .nx (σ.set i (some d)) M1) := fun hs =>
        (ps_set hnd hi hx z.1 hs (.inl (h.x.st.fn rfl x))).weak fun D τ H q => asg_of q
      cases hc : notComp y with
      | true => exact plain (swaps_no hc)
      | false =>
        rw [hc, Bool.false_or, Bool.and_eq_true] at k3
        cases y with
        | ListComp elt gs scope lp =>
          cases e with
          | comp m tg' kk its d e' =>
            have hsw := swC_ok (elt := elt) (gs := gs) (l := pos.line) (scope := scope) (y := x) (py := px) (pos := lp) h.x.st.sc h.kind
            cases hcv : swC sc scope x px lp with
            | false => exact plain (by rw [hsw, hcv])
            | true =>
              rw [hcv] at hsw
              have hl : X.env.scope.names.lookup x = some .local := by
                unfold swC at hcv
                rw [h.x.st.sc]
                simp only [Bool.and_eq_true, beq_iff_eq] at hcv
                exact hcv.1.1
              obtain ⟨t, iter, ifs, wi, g, tt, te, own, rfl, p1, p2, p3, p4, p5, p6, p7⟩ := comp_parts h.x k4
              refine (ps_setLc h.x.calm hnd hi hl hsw p1 p2 p3 p4 p5 p6).weak fun D τ H q => ?_
              exact p7 _ _ _ (asg_of q)
          | _ => simp [isCompE] at k3
        | _ => simp [isLc] at k3
    | _ => simp [chkAsg] at k
  | names l is =>
    cases tg with
    | Tuple es kk p =>
      simp only [chkAsg, Bool.and_eq_true, decide_eq_true_eq] at k
      obtain ⟨⟨⟨k1, k2⟩, k3⟩, k4⟩ := k
      obtain ⟨p1, p2, p3⟩ := h.x.st.names k1
      have hw : swappedStores [.Tuple es kk p] y X.env = pure none := by
        cases y with
        | Tuple vs k2 p2 =>
          simp only [swNo, decide_eq_true_eq] at k3
          exact swV_ok h.x.st.sc h.kind k3
        | _ => rfl
      have ee : exS tb.P Φ (.asg (.names l is) e) = fun σ M => (evE tb.P Φ e σ M).st σ fun d M1 => match (if l then seqOf M1 d else match d with | .tup xs => some xs | _ => none) with
          | some ds => match setAll is ds σ with
            | some σ1 => .ok .nx σ1 M1
            | none => .bad
          | none => .bad := by funext σ M; simp only [exS] <;> rfl
      rw [ee]
      exact s_names h.x.calm h.x.K (soundE e h.x k4).1 p1 p2 p3 k2 hw
    | _ => simp [chkAsg] at k
  | sub o i =>
    cases tg with
    | Subscript p q pp =>
      simp only [chkAsg, Bool.and_eq_true, decide_eq_true_eq] at k
      obtain ⟨⟨⟨⟨k1, k2⟩, k3⟩, k4⟩, k5⟩ := k
      have ee : exS tb.P Φ (.asg (.sub o i) e) = fun σ M => (evE tb.P Φ e σ M).st σ fun d M1 => (evE tb.P Φ o σ M1).st σ fun x M2 => (evE tb.P Φ i σ M2).st σ fun y M3 => match subD d x y M3 with
          | some M4 => .ok .nx σ M4
          | none => .bad := by funext σ M; simp only [exS] <;> rfl
      rw [ee]
      exact s_sub h.x.K (by have := h.x.un; omega) (soundE e h.x k5).1 (soundE o h.x k1).1 (soundE i h.x k2).1 k4 k3
    | _ => simp [chkAsg] at k
  | fld o f =>
    cases tg with
    | Attribute p n pp =>
      simp only [chkAsg, Bool.and_eq_true, decide_eq_true_eq] at k
      obtain ⟨⟨⟨k1, k2⟩, k3⟩, k4⟩ := k
      have ee : exS tb.P Φ (.asg (.fld o f) e) = fun σ M => (evE tb.P Φ e σ M).st σ fun d M1 => (evE tb.P Φ o σ M1).st σ fun x M2 => match fldD tb.P.ini d x f M2 with
          | some M4 => .ok .nx σ M4
          | none => .bad := by funext σ M; simp only [exS] <;> rfl
      rw [ee]
      exact s_fld h.x.K h.x.ob k1 (soundE e h.x k4).1 (soundE o h.x k2).1 k3
    | _ => simp [chkAsg] at k
  | flds i fs =>
    cases tg with
    | Tuple es kk p =>
      simp only [chkAsg, Bool.and_eq_true, decide_eq_true_eq] at k
      obtain ⟨⟨⟨k1, k2⟩, k3⟩, k4⟩ := k
      obtain ⟨p1, p2, p3⟩ := pgs_fls h.x.K h.x.st.hN h.x.st.sc h.x.ob (fun y hy => h.x.vis hy) k1
      have hw : swappedStores [.Tuple es kk p] y X.env = pure none := by
        cases y with
        | Tuple vs k2 p2 =>
          simp only [swNo, decide_eq_true_eq] at k3
          exact swV_ok h.x.st.sc h.kind k3
        | _ => rfl
      have ee : exS tb.P Φ (.asg (.flds i fs) e) = fun σ M => (evE tb.P Φ e σ M).st σ fun d M1 => match d with
          | .tup ds => match σ[i]? with
            | some (some x) => match putAll tb.P.ini x fs ds M1 with
              | some M2 => .ok .nx σ M2
              | none => .bad
            | _ => .bad
          | _ => .bad := by funext σ M; simp only [exS] <;> rfl
      rw [ee]
      exact s_flds h.x.calm h.x.K (soundE e h.x k4).1 p1 p2 p3 k2 hw
    | _ => simp [chkAsg] at k
theorem par_ok {N : List Str} {sc : Scope} {W : WX} {X : Cx} {is : List Nat} {es : List E} {ts vs : List Expr} {kt k2 : Nat} {pt p2 pos : Pos} (h : SOk c tb Φ lvl CX md N sc W X) (k : parOk N sc is ts vs = true) (kl : chkL tb N sc es vs = true) :
    PS X (.Assign [.Tuple ts kt pt] (.Tuple vs k2 p2) pos) (tS c W (exS tb.P Φ (.par is es))) := by
  have hnd : X.N.Nodup := by rw [h.x.st.hN]; exact h.x.st.nd
  have z := soundL es h.x kl
  have ee : exS tb.P Φ (.par is es) = fun σ M => (evL tb.P Φ es σ M).st σ fun ds M1 => match setAll is ds σ with | some σ1 => .ok .nx σ1 M1 | none => .bad := by funext σ M; simp only [exS] <;> rfl
  rw [ee]
  unfold parOk at k
  split at k
  · simp only [Bool.and_eq_true, decide_eq_true_eq] at k
    obtain ⟨⟨⟨⟨⟨k1, k2⟩, k3⟩, k4⟩, k5⟩, k6⟩ := k
    refine (ps_par h.x.calm hnd (by rw [h.x.st.hN]; exact k1) (by rw [h.x.st.hN]; exact k2) k3 (by rw [h.x.st.sc]; exact k4) (by rw [h.x.st.sc]; exact k5) z.1 (swV_ok h.x.st.sc h.kind k6)).weak fun D τ H q => ?_
    refine (par_of q).imp fun vs H1 ⟨hl, q⟩ => ?_
    rcases vs with _ | ⟨v, _ | ⟨u, _ | ⟨_, _⟩⟩⟩ <;> simp at hl
    exact ⟨v, u, rfl, q⟩
  · simp only [Bool.and_eq_true, decide_eq_true_eq] at k
    obtain ⟨⟨⟨⟨⟨⟨⟨⟨⟨k1, k2⟩, k3⟩, k4⟩, k5⟩, k6⟩, k7⟩, k8⟩, k9⟩, k10⟩ := k
    refine (ps_par3 h.x.calm hnd (by rw [h.x.st.hN]; exact k1) (by rw [h.x.st.hN]; exact k2) (by rw [h.x.st.hN]; exact k3) k4 k5 k6 (by rw [h.x.st.sc]; exact k7) (by rw [h.x.st.sc]; exact k8) (by rw [h.x.st.sc]; exact k9) z.1 (swV_ok h.x.st.sc h.kind k10)).weak fun D τ H q => ?_
    refine (par_of q).imp fun vs H1 ⟨hl, q⟩ => ?_
    rcases vs with _ | ⟨v, _ | ⟨u, _ | ⟨u2, _ | ⟨_, _⟩⟩⟩⟩ <;> simp at hl
    exact ⟨v, u, u2, rfl, q⟩
  · cases k
theorem SOk.tr {N : List Str} {sc : Scope} {W W' : WX} {X : Cx} (h : SOk c tb Φ lvl CX md N sc W X) (h1 : 1 ≤ md) (pn : List (Addr × Obj)) (xe : Value → Shared → Prop) (tk : Takes (X.tr pn xe) W') (own : PassesOwn (model X.prog X.w) X.A X.env xe) : SOk c tb Φ lvl CX 1 N sc W' (X.tr pn xe) :=
  ⟨⟨h.x.K, ⟨h.x.st.hN, h.x.st.nd, h.x.st.sc, h.x.st.fn⟩, h.x.calm, h.x.kit, h.x.gle, h.x.con, h.x.bi, h.x.cls, h.x.fn, h.x.room, h.x.ob, fun τ => by rw [h.cx h1]; exact passAt tk τ, h.x.cxF, h.x.rk, h.x.lv2⟩, own, h.kind, by decide, fun _ => h.cx h1, fun z => by omega, fun _ => tk, takesN tk, fun z => by omega, fun z => by omega, h.rk, h.lv, h.hs, h.hf⟩
theorem SOk.trN {N : List Str} {sc : Scope} {W W' : WX} {X : Cx} (h : SOk c tb Φ lvl CX md N sc W X) (h2 : md = 2) (pn : List (Addr × Obj)) (xe : Value → Shared → Prop) (tk : L2N.Takes (X.tr pn xe) W') (own : PassesOwn (model X.prog X.w) X.A X.env xe) : SOk c (coldT tb) Φ lvl (L2N.CX X.prog X.w) 0 N sc W' (X.tr pn xe) :=
  ⟨⟨h.x.K, ⟨h.x.st.hN, h.x.st.nd, h.x.st.sc, h.x.st.fn⟩, h.x.calm, h.x.kit, h.x.gle, h.x.con, h.x.bi, h.x.cls, by have z := (h.cold h2).2; rw [← h.x.K] at z; exact z, h.x.room, (h.cold h2).1, fun τ => L2N.passAt tk τ, fun outer H s u s' q => (by obtain ⟨_, _, _, _, _, _, _, _, _, _, _, _, z⟩ := q; exact z), h.x.rk, h.x.lv2⟩, own, h.kind, by decide, fun z => by omega, fun _ => rfl, fun z => by omega, tk, fun z => by omega, fun z => by omega, h.rk, h.lv, h.hs, h.hf⟩
theorem sim_ok {N : List Str} {sc : Scope} {W : WX} {X : Cx} (h : SOk c tb Φ lvl CX md N sc W X) (a : Addr) (pn : List (Addr × Obj)) {e : E} {y : Expr} (hs : simE e = true) (k : chkE tb N sc e y = true) : PE (X.suite a pn) y (tE c WF (evE tb.P Φ e)) := by
  have lit : ∀ {e : E} {y : Expr}, litE e = true → chkE tb N sc e y = true → PE (X.suite a pn) y (tE c WF (evE tb.P Φ e)) := by
    intro e y he k
    cases e with
    | lit d =>
      cases y with
      | Constant kk j pos =>
        simp only [chkE] at k
        obtain ⟨v, h1, h2⟩ := lit_ok (c := c) (X := X.suite a pn) (j := j) (pos := pos) k
        rw [show evE tb.P Φ (.lit d) = fun _ M => .ok d M from by funext σ M; simp only [evE]]
        exact l_lit h1 h2
      | _ => simp [chkE] at k
    | _ => simp [litE] at he
  cases e with
  | var i =>
    cases y with
    | Name x pos =>
      simp only [chkE, Bool.and_eq_true, decide_eq_true_eq] at k
      obtain ⟨d1, d2, d3⟩ := plain_dbg k.2
      exact l_var (i := i) (fun σ M => by simp only [evE] <;> rfl) (show X.N[i]? = some x by rw [h.x.st.hN]; exact k.1.1) (h.x.vis k.1.2) d1 d2
    | _ => simp [chkE] at k
  | lit d => exact lit rfl k
  | tup es =>
    cases y with
    | Tuple xs kk pos =>
      simp only [chkE, Bool.and_eq_true, decide_eq_true_eq] at k
      have all : ∀ {es : List E} {xs : List Expr}, es.all litE = true → chkL tb N sc es xs = true → PA (X.suite a pn) xs (tL c WF (evL tb.P Φ es)) := by
        intro es
        induction es with
        | nil =>
          intro xs _ k
          simp only [chkL, List.isEmpty_iff] at k
          subst k
          rw [show evL tb.P Φ [] = fun _ M => .ok [] M from by funext σ M; simp only [evL]]
          exact l_nil
        | cons e es ih =>
          intro xs hl k
          cases xs with
          | nil => simp [chkL] at k
          | cons x xs =>
            simp only [chkL, Bool.and_eq_true] at k
            rw [List.all_cons, Bool.and_eq_true] at hl
            rw [show evL tb.P Φ (e :: es) = fun σ M => (evE tb.P Φ e σ M).bind fun x M1 => (evL tb.P Φ es σ M1).bind fun xs M2 => .ok (x :: xs) M2 from by funext σ M; simp only [evL]]
            exact l_cons (lit hl.1 k.1.1) (ih hl.2 k.2) k.1.2
      rw [show evE tb.P Φ (.tup es) = fun σ M => (evL tb.P Φ es σ M).bind fun ds M1 => .ok (.tup ds) M1 from by funext σ M; simp only [evE]]
      exact l_tup (all hs k.1) (evL_len tb.P es) k.2
    | _ => simp [chkE] at k
  | _ => simp [simE] at hs
theorem su_ok {N : List Str} {sc : Scope} {W : WX} {X : Cx} (h : SOk c tb Φ lvl CX md N sc W X) (a : Addr) (pn : List (Addr × Obj)) {s : S} {x : Stmt} (k : chkSu tb N sc s x = true) : PS (X.suite a pn) x (tS c WF (exS tb.P Φ s)) := by
  unfold chkSu at k
  split at k
  · rename_i i e x px y pos
    simp only [Bool.and_eq_true, decide_eq_true_eq] at k
    obtain ⟨⟨⟨⟨k1, k2⟩, k3⟩, k4⟩, k5⟩ := k
    have hnd : X.N.Nodup := by rw [h.x.st.hN]; exact h.x.st.nd
    have hx : Loc X.env.scope x := by
      unfold storable at k2
      rw [h.x.st.sc]
      split at k2
      · exact .inl (by assumption)
      · exact .inr (by assumption)
      · cases k2
    rw [show exS tb.P Φ (.asg (.name i) e) = fun σ M => (evE tb.P Φ e σ M).st σ fun d M1 => .ok .nx (σ.set i (some d)) M1 from by funext σ M; simp only [exS]]
    exact (ps_set (X := X.suite a pn) hnd (show X.N[i]? = some x by rw [h.x.st.hN]; exact k1) hx (sim_ok h a pn k3 k5) (swaps_no k4) (.inl (h.x.st.fn rfl x))).weak fun D τ H q => asg_of q
  · rw [show exS tb.P Φ .retN = fun σ M => .ok (.ret .non) σ M from by funext σ M; simp only [exS]]
    exact s_retN
  · rename_i e y pos
    simp only [Bool.and_eq_true] at k
    rw [show exS tb.P Φ (.ret e) = fun σ M => (evE tb.P Φ e σ M).st σ fun d M1 => .ok (.ret d) σ M1 from by funext σ M; simp only [exS]]
    exact (s_ret (X := X.suite a pn) (sim_ok h a pn k.1 k.2)).weak fun D τ H q => q
  · exact s_no
  · cases k
theorem sus_ok {N : List Str} {sc : Scope} {W : WX} {X : Cx} (h : SOk c tb Φ lvl CX md N sc W X) (a : Addr) (pn : List (Addr × Obj)) : ∀ {r : List S} {xs : List Stmt}, chkSus tb N sc r xs = true → PSs (X.suite a pn) xs (tS c WF (exSs tb.P Φ r))
  | [], [], _ => by
    rw [show exSs tb.P Φ [] = fun σ M => .ok .nx σ M from by funext σ M; simp only [exSs]]
    exact s_nil
  | [], _ :: _, k => by simp [chkSus] at k
  | _ :: _, [], k => by simp [chkSus] at k
  | s :: r, x :: xs, k => by
    simp only [chkSus, Bool.and_eq_true] at k
    rw [show exSs tb.P Φ (s :: r) = fun σ M => (exS tb.P Φ s σ M).next fun σ1 M1 => exSs tb.P Φ r σ1 M1 from by funext σ M; simp only [exSs]]
    exact s_cons (su_ok h a pn k.1) (sus_ok h a pn k.2)
theorem raise_ok {N : List Str} {sc : Scope} {W : WX} {X : Cx} (h : SOk c tb Φ lvl CX md N sc W X) {k : Nat} {es : List E} {x : Str} {xs : List Expr} {p cp pos : Pos} (k1 : isGl sc x = true) (k2 : tb.cn.lookup x = some k) (k3 : plainName x = true) (k4 : raiseOk tb k es xs = true)
    (k5 : (xs.isEmpty || decide (tb.rk k = some false) || chkL tb N sc es xs) = true) : PS X (.Raise (some (.Call (.Name x p) xs [] cp)) none pos) (tS c W (exS tb.P Φ (.raise k es))) := by
  obtain ⟨d1, d2, d3⟩ := plain_dbg k3
  have hm := h.x.cls x k k2
  have ee : exS tb.P Φ (.raise k es) = fun σ M => (evL tb.P Φ es σ M).st σ fun ds M1 => .exn k ds σ M1 := by funext σ M; simp only [exS]
  have hr : Room 2 X.A := h.x.room.mono (by have := h.lv; omega)
  unfold raiseOk at k4
  split at k4
  · rename_i hrk
    split at k4
    · have e2 : exS tb.P Φ (.raise k []) = fun σ M => .exn k [] σ M := by rw [ee]; funext σ M; simp only [evL, Out.st_ok]
      rw [e2]
      exact s_raise0 (P := X.prog) h.x.calm h.x.K h.tkN (h.rk.pl k hrk) (h.x.gl k1) hm d1
    · cases k4
  · rename_i hrk
    split at k4
    · rename_i e a
      have e2 : exS tb.P Φ (.raise k [e]) = fun σ M => (evE tb.P Φ e σ M).st σ fun d M1 => .exn k [d] σ M1 := by
        rw [ee]; funext σ M; simp only [evL]
        cases evE tb.P Φ e σ M <;> rfl
      rw [e2]
      have k6 : chkL tb N sc [e] [a] = true := by simpa [hrk] using k5
      simp only [chkL, Bool.and_eq_true] at k6
      exact s_raise1 h.x.calm h.x.K h.tkN h.rk hrk hr (h.x.gl k1) hm d1 (soundE e h.x k6.1.1).1 k6.1.2
    · have e2 : exS tb.P Φ (.raise k [.lit .non]) = fun σ M => .exn k [.non] σ M := by rw [ee]; funext σ M; simp only [evL, evE, Out.bind_ok, Out.st_ok]
      rw [e2]
      exact s_raiseD h.x.calm h.x.K h.tkN h.rk hrk k4 hr (h.x.gl k1) hm d1
    · cases k4
  · cases k4
theorem s_one {W : WX} {X : Cx} {x : Stmt} {f : Sl → Hh → OutS} (h : PS X x (tS c W f)) : PSs X [x] (tS c W f) := by
  have e : f = fun σ M => (f σ M).next fun σ1 M1 => .ok .nx σ1 M1 := by
    funext σ M
    cases f σ M with
    | ok fl σ1 M1 => cases fl <;> rfl
    | exn _ _ _ _ => rfl
    | bad => rfl
  rw [e]
  exact s_cons h s_nil
theorem hot_ok {N : List Str} {sc : Scope} {W : WX} {X : Cx} (h : SOk c tb Φ lvl CX md N sc W X) (a : Addr) (oe : Obj) (pn : List (Addr × Obj)) (tk : Takes (L2H.suiteX X a ((a, oe) :: pn)) W) (hot : L2H.HotC (L2H.suiteX X a ((a, oe) :: pn))) {k : Nat} {es : List E} {x : Str} {xs : List Expr} {p cp pos : Pos} (k1 : isGl sc x = true) (k2 : tb.cn.lookup x = some k) (k3 : plainName x = true) (k4 : raiseOk tb k es xs = true) (kv : es.all isVarE = true)
    (k5 : (decide (tb.rk k = some false) || chkL tb N sc es xs) = true) : PS (L2H.suiteX X a ((a, oe) :: pn)) (.Raise (some (.Call (.Name x p) xs [] cp)) none pos) (tS c W fun σ M => (evL tb.P Φ es σ M).st σ fun ds M1 => .exn k ds σ M1) := by
  obtain ⟨d1, d2, d3⟩ := plain_dbg k3
  have hm := h.x.cls x k k2
  have hr : L2H.RoomH 2 (L2H.suiteX X a ((a, oe) :: pn)).A := L2H.roomH_mark (h.x.room.mono (by have := h.lv; omega)) _
  unfold raiseOk at k4
  split at k4
  · rename_i hrk
    split at k4
    · have e2 : (fun σ M => (evL tb.P Φ [] σ M).st σ fun ds M1 => OutS.exn k ds σ M1) = fun σ M => .exn k [] σ M := by funext σ M; simp only [evL, Out.st_ok]
      rw [e2]
      exact s_raiseH0 (P := X.prog) hot h.x.K tk (h.rk.pl k hrk) (h.x.gl k1) hm d1
    · cases k4
  · rename_i hrk
    split at k4
    · rename_i e y
      cases e with
      | var i =>
        have e2 : (fun σ M => (evL tb.P Φ [.var i] σ M).st σ fun ds M1 => OutS.exn k ds σ M1) = fun σ M => (evE tb.P Φ (.var i) σ M).st σ fun d M1 => .exn k [d] σ M1 := by
          funext σ M; simp only [evL]
          cases evE tb.P Φ (.var i) σ M <;> rfl
        rw [e2]
        have k6 : chkL tb N sc [.var i] [y] = true := by simpa [hrk] using k5
        simp only [chkL, Bool.and_eq_true] at k6
        cases y with
        | Name z zp =>
          have k7 := k6.1.1
          simp only [chkE, Bool.and_eq_true, decide_eq_true_eq] at k7
          obtain ⟨g1, g2, g3⟩ := plain_dbg k7.2
          exact s_raiseH1 hot h.x.K tk h.rk hrk hr (h.x.gl k1) hm d1 (l_var (i := i) (fun σ M => by simp only [evE] <;> rfl) (show X.N[i]? = some z by rw [h.x.st.hN]; exact k7.1.1) (h.x.vis k7.1.2) g1 g2) k6.1.2
        | _ => simp [chkE] at k6
      | _ => simp [isVarE] at kv
    · simp [isVarE] at kv
    · cases k4
  · cases k4
theorem XOk.blkX {fb : Bool} {N : List Str} {sc : Scope} {W : WX} {X : Cx} (h : XOk c tb Φ lvl CX N sc fb W X) (hx : CX = L2.CX X.prog X.w) (tk : Takes X W) (hs : X.stack = X.env :: X.outer) (hf : X.env.frame = some X.env.locals) (scope : Scope)
    {pins : List (Addr × Obj)} {σ : L2.St} {s : Shared} {H : Hp} {cl : List (Str × Addr)} {fp : List Addr} (I3 : L2.Inv X pins σ H s) (f3 : ∀ b ∈ fp, FpOk X pins H b) :
    XOk c tb Φ lvl CX N (relS scope sc) false (fun cls d _ H' => W cls d σ H') ((X.blk s H scope (compEnvC scope cl s.heap.objs.size X.env) fp).wish (notedBy (model X.prog X.w) X.A (compEnvC scope cl s.heap.objs.size X.env) (CompFails (model X.prog X.w) X.A X.xe (compEnvC scope cl s.heap.objs.size X.env)))) :=
  ⟨h.K, ⟨h.st.hN, h.st.nd, by show relS scope X.env.scope = _; rw [h.st.sc], fun z => nomatch z⟩, h.calm, h.kit, h.gle, h.con, h.bi, h.cls, h.fn, h.room, h.ob, fun τ pins5 H5 s5 u s' I5 q => by
    rw [hx] at q
    exact comp_out tk hs hf I3 f3 I5.unwish q, h.cxF, h.rk, h.lv2⟩
mutual
theorem soundS : ∀ (s : S) {tb : Tb} {CX : CXT} {md : Nat} {N : List Str} {sc : Scope} {W : WX} {X : Cx} {x : Stmt}, SOk c tb Φ lvl CX md N sc W X → chkS tb N sc s x = true → tlv s ≤ md → PS X x (tS c W (exS tb.P Φ s))
  | .asg t e, tb, CX, md, N, sc, W, X, x, h, k, hm => by
    unfold chkS at k
    split at k
    · exact asg_ok h k
    · cases k
  | .par is es, tb, CX, md, N, sc, W, X, x, h, k, hm => by
    unfold chkS at k
    split at k
    · rw [Bool.and_eq_true] at k
      exact par_ok h k.1 k.2
    · cases k
  | .expr e, tb, CX, md, N, sc, W, X, x, h, k, hm => by
    unfold chkS at k
    split at k
    · rw [Bool.and_eq_true] at k
      have ee : exS tb.P Φ (.expr e) = fun σ M => (evE tb.P Φ e σ M).st σ fun _ M1 => .ok .nx σ M1 := by funext σ M; simp only [exS]
      rw [ee]
      exact s_expr (soundE e h.x k.1).1 k.2
    · cases k
  | .ite e a b, tb, CX, md, N, sc, W, X, x, h, k, hm => by
    unfold chkS at k
    split at k
    · simp only [Bool.and_eq_true] at k
      obtain ⟨⟨⟨k1, k2⟩, k3⟩, k4⟩ := k
      have ee : exS tb.P Φ (.ite e a b) = fun σ M => (evE tb.P Φ e σ M).st σ fun x M1 => ifB x .bad (exSs tb.P Φ a σ M1) (exSs tb.P Φ b σ M1) := by funext σ M; simp only [exS]
      rw [ee]
      have ha : tlvs a ≤ md := Nat.le_trans (Nat.le_max_left _ _) hm
      have hbb : tlvs b ≤ md := Nat.le_trans (Nat.le_max_right _ _) hm
      exact s_if ((soundE e h.x k1).2 k2) (soundSs a h k3 ha) (soundSs b h k4 hbb)
    · cases k
  | .whl e b, tb, CX, md, N, sc, W, X, x, h, k, hm => by
    unfold chkS at k
    split at k
    · simp only [Bool.and_eq_true] at k
      obtain ⟨⟨k1, k2⟩, k3⟩ := k
      have ee : exS tb.P Φ (.whl e b) = fun σ M => whileR (evE tb.P Φ e) (exSs tb.P Φ b) σ M := by funext σ M; simp only [exS]
      rw [ee]
      exact s_while h.own ((soundE e h.x k1).2 k2) (soundSs b h k3 hm)
    · cases k
  | .loop tg kk its b, tb, CX, md, N, sc, W, X, x, h, k, hm => by
    unfold chkS at k
    split at k
    · simp only [Bool.and_eq_true] at k
      obtain ⟨⟨⟨k1, k2⟩, k3⟩, k4⟩ := k
      split at k3
      · rename_i xs ei
        have z := soundL its h.x k3
        have ee : exS tb.P Φ (.loop tg kk its b) = fun σ M => (evL tb.P Φ its σ M).st σ fun vs M1 => match itsD kk vs M1 with
          | some (xs, g) => forL (bindTg tg) (exSs tb.P Φ b) g xs σ M1
          | none => .bad := by funext σ M; simp only [exS] <;> rfl
        rw [ee]
        rename_i iter _ _ _
        exact s_for h.own h.x.calm (it_ok h.x ei z.1 z.2.1 z.2.2) (h.x.st.tg h.x.calm h.x.K k1) (soundSs b h k4 hm) fun x => by
          revert k2
          cases iter <;> first | (intro _; rfl) | (intro k2; simp [notSet] at k2)
      · cases k3
    · cases k
  | .ret e, tb, CX, md, N, sc, W, X, x, h, k, hm => by
    unfold chkS at k
    split at k
    · have ee : exS tb.P Φ (.ret e) = fun σ M => (evE tb.P Φ e σ M).st σ fun d M1 => .ok (.ret d) σ M1 := by funext σ M; simp only [exS]
      rw [ee]
      exact s_ret (soundE e h.x k).1
    · cases k
  | .retX m tg kk its e, tb, CX, md, N, sc, W, X, x, h, k, hm => by
    unfold chkS at k
    split at k
    · rename_i y t iter scope _ _
      simp only [Bool.and_eq_true, decide_eq_true_eq] at k
      obtain ⟨⟨⟨⟨⟨k1, k2⟩, k3⟩, k4⟩, k5⟩, k7⟩ := k
      split at k5
      · rename_i xs ei
        have hm1 : 1 ≤ md := hm
        have z := soundL its h.x k5
        have pi := it_ok h.x ei z.1 z.2.1 z.2.2
        have ee : exS tb.P Φ (.retX m tg kk its e) = fun σ M => (compXE m tg kk (evL tb.P Φ its) (evE tb.P Φ e) σ M).st σ fun d M1 => .ok (.ret d) σ M1 := by funext σ M; simp only [exS, evE] <;> rfl
        rw [ee]
        refine s_ret ?_
        have hg : ∀ (s : Shared) (H : Hp) (C : Addr) (cl : List (Str × Addr)) (fp : List Addr), PG (X.blk s H scope (compEnvC scope cl C X.env) fp) t (tG c tg) := fun s H C cl fp =>
          (h.x.blk scope s H C cl fp).st.tg h.x.calm h.x.K k3
        have hnd : X.N.Nodup := by rw [h.x.st.hN]; exact h.x.st.nd
        have bk : BlkOk X.N X.env.scope scope (ownOf' tg t) := by rw [h.x.st.hN, h.x.st.sc]; exact blkOk_by k1
        have hs : ∀ x, foldedSetIterable iter X.env x = pure x := fun x => by cases iter <;> first | rfl | (simp [notSet] at k4)
        refine (pe_lcX (te := fun τ => tE c (fun cls d _ H' => W cls d τ H') (evE tb.P Φ e)) h.x.calm hnd pi bk hg (fun pins σ s H cl fp I3 f3 => (soundE e (h.x.blkX (h.cx hm1) (h.tk hm1) h.hs h.hf scope I3 f3) k7).1) hs).weak fun τ H Q q => ?_
        rw [k2]
        exact comp_ofX q
      · cases k5
    · cases k
  | .retN, tb, CX, md, N, sc, W, X, x, h, k, hm => by
    unfold chkS at k
    split at k
    · have ee : exS tb.P Φ .retN = fun σ M => .ok (.ret .non) σ M := by funext σ M; simp only [exS]
      rw [ee]
      exact s_retN
    · cases k
  | .raise c0 es, tb, CX, md, N, sc, W, X, x, h, k, hm => by
    unfold chkS at k
    split at k
    · simp only [Bool.and_eq_true, decide_eq_true_eq] at k
      obtain ⟨⟨⟨⟨k1, k2⟩, k3⟩, k4⟩, k5⟩ := k
      exact raise_ok h k1 k2 k3 k4 k5
    · cases k
  | .try_ b c0 slot hh, tb, CX, md, N, sc, W, X, x, h, k, hm => by
    unfold chkS at k
    split at k
    · rename_i body x np n suite pos' pos
      simp only [Bool.and_eq_true, decide_eq_true_eq, Bool.not_eq_true'] at k
      obtain ⟨⟨⟨⟨⟨⟨⟨k1, k2⟩, k3⟩, k4⟩, k5⟩, k6⟩, k7⟩, k8⟩ := k
      obtain ⟨d1, d2, d3⟩ := plain_dbg k3
      have hnd : X.N.Nodup := by rw [h.x.st.hN]; exact h.x.st.nd
      have nm : Names X x (.ref (c.ca c0)) := ⟨h.x.gl k1, d1, .inl (h.x.cls x c0 k2)⟩
      have ee : exS tb.P Φ (.try_ b c0 slot hh) = fun σ M => catchS tb.P.ok tb.P.sup c0 slot (exSs tb.P Φ hh) (exSs tb.P Φ b σ M) := by funext σ M; simp only [exS]
      rw [ee]
      have hx : ∀ y, tb.P.ok y = true → PySem.W.exmOne X.K (.ref (c.ca y)) (.ref (c.ca c0)) = some (tb.P.sup y c0) := fun y hy => by
        rw [h.x.K]
        exact h.x.kit.exm y c0 hy k4
      have hlb : tlvs b ≤ 1 ∧ 1 ≤ md := by
        simp only [tlv] at hm
        have := h.mdle
        split at hm
        · exact ⟨by assumption, hm⟩
        · omega
      have hb : ∀ (W' : WX) (pn : List (Addr × Obj)) (xe : Value → Shared → Prop), Takes (X.tr pn xe) W' → PassesOwn (model X.prog X.w) X.A X.env xe → PSs (X.tr pn xe) body (tS c W' (exSs tb.P Φ b)) := fun W' pn xe tk own => soundSs b (h.tr hlb.2 pn xe tk own) k8 hlb.1
      obtain ⟨b0, sr, rfl⟩ : ∃ b0 sr, suite = b0 :: sr := by
        cases suite with
        | nil => cases hh <;> simp [chkSus] at k6 k7
        | cons b0 sr => exact ⟨b0, sr, rfl⟩
      unfold slotOk at k5
      split at k5
      · exact s_try_only h.hs h.hf nm (h.tk hlb.2) hx hb fun a pn => sus_ok h a pn k7
      · simp only [Bool.and_eq_true, decide_eq_true_eq] at k5
        exact s_try_as h.hs h.hf hnd (by rw [h.x.st.hN]; exact k5.1) (by show X.env.scope.names.lookup _ = _; rw [h.x.st.sc]; exact k5.2) nm (h.tk hlb.2) hx hb fun a pn => sus_ok h a pn k7
      · cases k5
    · cases k
  | .tryR b c0 c2 es, tb, CX, md, N, sc, W, X, x, h, k, hm => by
    unfold chkS at k
    split at k
    · rename_i body x np y yp xs cp rpos pos' pos
      simp only [Bool.and_eq_true, decide_eq_true_eq] at k
      obtain ⟨⟨⟨⟨⟨⟨⟨⟨⟨⟨k1, k2⟩, k3⟩, k4⟩, k5⟩, k6⟩, k7⟩, k8⟩, k9⟩, k10⟩, k11⟩ := k
      obtain ⟨d1, d2, d3⟩ := plain_dbg k3
      have nm : Names X x (.ref (c.ca c0)) := ⟨h.x.gl k1, d1, .inl (h.x.cls x c0 k2)⟩
      have ee : exS tb.P Φ (.tryR b c0 c2 es) = fun σ M => catchR tb.P.ok tb.P.sup c0 (fun σ M => (evL tb.P Φ es σ M).st σ fun ds M1 => .exn c2 ds σ M1) (exSs tb.P Φ b σ M) := by funext σ M; simp only [exS]
      rw [ee]
      have hx : ∀ y, tb.P.ok y = true → PySem.W.exmOne X.K (.ref (c.ca y)) (.ref (c.ca c0)) = some (tb.P.sup y c0) := fun y hy => by
        rw [h.x.K]
        exact h.x.kit.exm y c0 hy k4
      have hlb : tlvs b ≤ 0 ∧ md = 2 := by
        simp only [tlv] at hm
        have := h.mdle
        split at hm
        · exact ⟨by omega, by omega⟩
        · omega
      have hb : ∀ (W' : WX) (pn : List (Addr × Obj)) (xe : Value → Shared → Prop), L2N.Takes (X.tr pn xe) W' → PassesOwn (model X.prog X.w) X.A X.env xe → PSs (X.tr pn xe) body (tS c W' (exSs tb.P Φ b)) := fun W' pn xe tk own => soundSs (tb := coldT tb) (CX := L2N.CX X.prog X.w) (md := 0) b (h.trN hlb.2 pn xe tk own) k11 hlb.1
      exact s_tryR h.hs h.hf nm (h.ownAt hlb.2) (h.tk (by omega)) hx hb fun a oe pn tk hot => s_one (hot_ok h a oe pn tk hot k5 k6 k7 k8 k9 k10)
    · cases k
  | .brk, tb, CX, md, N, sc, W, X, x, h, k, hm => by
    unfold chkS at k
    split at k
    · have ee : exS tb.P Φ .brk = fun σ M => .ok .brk σ M := by funext σ M; simp only [exS]
      rw [ee]
      exact s_brk
    · cases k
  | .cnt, tb, CX, md, N, sc, W, X, x, h, k, hm => by
    unfold chkS at k
    split at k
    · have ee : exS tb.P Φ .cnt = fun σ M => .ok .cnt σ M := by funext σ M; simp only [exS]
      rw [ee]
      exact s_cnt
    · cases k
  | .pass, tb, CX, md, N, sc, W, X, x, h, k, hm => by
    unfold chkS at k
    have ee : exS tb.P Φ .pass = fun σ M => .ok .nx σ M := by funext σ M; simp only [exS]
    split at k
    · rw [ee]
      exact s_pass
    · rw [ee]
      exact s_doc
    · cases k
  | .loopD tg i b, tb, CX, md, N, sc, W, X, x, h, k, hm => by
    unfold chkS at k
    split at k
    · rename_i t iter p pos
      simp only [Bool.and_eq_true] at k
      obtain ⟨⟨k1, k2⟩, k3⟩ := k
      have ee : exS tb.P Φ (.loopD tg i b) = fun σ M => match lockD σ i M with
        | some (k, ks, vs) => if line < ks.length then .bad else unlkS k ks vs (forL (bindTg tg) (exSs tb.P Φ b) [] ks σ (M.set k (.lck ks vs)))
        | none => .bad := by funext σ M; simp only [exS] <;> rfl
      rw [ee]
      have hv := var_ok (W := W) h.x k2
      exact s_loopD h.own h.x.calm hv.1 hv.2 (h.x.st.tg h.x.calm h.x.K k1) (soundSs b h k3 hm) fun x => by
        cases iter <;> first | rfl | (simp [chkVar] at k2)
    · cases k
  | .no, tb, CX, md, N, sc, W, X, x, h, k, hm => s_no
theorem soundSs : ∀ (r : List S) {tb : Tb} {CX : CXT} {md : Nat} {N : List Str} {sc : Scope} {W : WX} {X : Cx} {xs : List Stmt}, SOk c tb Φ lvl CX md N sc W X → chkSs tb N sc r xs = true → tlvs r ≤ md → PSs X xs (tS c W (exSs tb.P Φ r))
  | [], tb, CX, md, N, sc, W, X, xs, h, k, hm => by
    simp only [chkSs, List.isEmpty_iff] at k
    subst k
    have ee : exSs tb.P Φ [] = fun σ M => .ok .nx σ M := by funext σ M; simp only [exSs]
    rw [ee]
    exact s_nil
  | s :: r, tb, CX, md, N, sc, W, X, xs, h, k, hm => by
    cases xs with
    | nil => simp [chkSs] at k
    | cons x xs =>
      simp only [chkSs, Bool.and_eq_true] at k
      have ee : exSs tb.P Φ (s :: r) = fun σ M => (exS tb.P Φ s σ M).next fun σ1 M1 => exSs tb.P Φ r σ1 M1 := by funext σ M; simp only [exSs]
      rw [ee]
      exact s_cons (soundS s h k.1 (Nat.le_trans (Nat.le_max_left _ _) hm)) (soundSs r h k.2 (Nat.le_trans (Nat.le_max_right _ _) hm))
end
end
end Fw
namespace Fw
open PySem PySem.Spec PyProof.Rows L2
def scB (N P : List Str) (sc : Scope) : Bool := (sc.kind == .function) && !sc.isCoroutine && !sc.isGenerator && decide N.Nodup && decide (N.take P.length = P) && P.all (fun x => sc.names.lookup x == some .local || sc.names.lookup x == some .cell) && sc.names.all (fun y => y.2 != .free)
theorem scB_ok {N P : List Str} {sc : Scope} (h : scB N P sc = true) : FnScope N P sc := by
  unfold scB at h
  simp only [Bool.and_eq_true, decide_eq_true_eq, List.all_eq_true, beq_iff_eq, Bool.not_eq_true', Bool.or_eq_true, bne_iff_ne] at h
  obtain ⟨⟨⟨⟨⟨⟨h1, h2⟩, h3⟩, h4⟩, h5⟩, h6⟩, h7⟩ := h
  exact ⟨h1, h2, h3, h4, h5, h6, h7⟩
def chkFn (tb : Tb) (N : List Str) (F : Fn) (sc : Scope) (body : List Stmt) : Bool :=
  scB N (N.take F.par) sc && decide (F.slots = N.length) && decide (F.par ≤ N.length) && chkSs tb N sc F.body body && decide (tlvs F.body ≤ 2)
def FunC (c : Ct) (tb : Tb) (a : Addr) (f : Nat) : Prop := ∃ (fd : FuncData) (F : Fn) (N : List Str) (nm qn : Str) (params : Arguments) (body : List Stmt) (sc : Scope) (dvs : List V) (kws : List (Str × V)),
  tb.T[f]? = some F ∧ FunD c.K nm qn params body sc dvs kws a fd ∧ (∀ (s : Shared) (us : List Value), us.length = (N.take F.par).length → BindsTo s fd ⟨us, []⟩ ((N.take F.par).zip us)) ∧ chkFn tb N F sc body = true
structure ObT (c : Ct) (tb : Tb) (mg : Str → Option Value) : Prop where
  a0 : tb.an[0]? = some ("at" : Str)
  an : ∀ k x, tb.an[k]? = some x → c.an k = x
  na : c.na = tb.an.length
  nd : tb.an.Nodup
  dis : ∀ m ∈ tb.mn, m ∉ tb.an
  on : ∀ x i, tb.on.lookup x = some i → mg x = some (.ref (c.ca i))
  cl : ∀ x, (tb.P.ini x).isSome = true → Cls c.K (c.ca x) ∧ ∀ n ∈ tb.an, NoAttr c.K (c.ca x) n
  mkr : ∀ x f, tb.P.ini x = some f → ∃ a, Mk c.K (c.ca x) a ∧ FunC c tb a f
  mt : ∀ x k f, tb.P.mth x k = some f → (tb.P.ini x).isSome = true ∧ ∃ n a, tb.mn[k]? = some n ∧ Meth c.K (c.ca x) n a ∧ FunC c tb a f
theorem ob_none {c : Ct} {tb : Tb} {mg : Str → Option Value} (h1 : tb.an = [("at" : Str)]) (h2 : tb.mn = []) (h3 : tb.on = []) (h4 : c.an 0 = "at") (h5 : c.na = 1) (h6 : tb.P.ini = fun _ => none) (h7 : tb.P.mth = fun _ _ => none) : ObT c tb mg := by
  refine ⟨by rw [h1] <;> rfl, fun k x e => ?_, by rw [h1, h5] <;> rfl, by rw [h1]; simp, fun m hm => (by rw [h2] at hm; cases hm), fun x i e => (by rw [h3] at e; cases e), fun x e => (by rw [h6] at e; cases e), fun x f e => (by rw [h6] at e; cases e), fun x k f e => (by rw [h7] at e; cases e)⟩
  rw [h1] at e
  rcases k with _ | k
  · cases e; exact h4
  · simp at e
theorem rk_none {c : Ct} {rk : Nat → Option Bool} {df : Nat → Bool} {P : Program} {w : World} {mg : Str → Option Value} {base : Heap} (h : rk = fun _ => none) : RkOk c rk df P w mg base := by
  subst h
  exact ⟨fun _ e => (by cases e), fun _ e => (by cases e)⟩
theorem kit_none {c : Ct} {P : Pg} (h : P.ok = fun _ => false) (hkt : P.kt = c.kt) : KitOk c P P.ok := by
  rw [h]
  exact ⟨h.symm, fun _ _ _ e => Bool.noConfusion e, fun _ _ e => Bool.noConfusion e, fun _ _ _ e => Bool.noConfusion e, fun _ e => Bool.noConfusion e, fun _ e => Bool.noConfusion e, fun _ e => Bool.noConfusion e, fun _ e => Bool.noConfusion e, fun _ _ e => Bool.noConfusion e, hkt⟩
def FunAt (c : Ct) (tb : Tb) (mg : Str → Option Value) (x : Str) (f : Nat) : Prop := ∃ (a : Addr) (fd : FuncData) (F : Fn) (N : List Str) (nm qn : Str) (params : Arguments) (body : List Stmt) (sc : Scope) (dvs : List V) (kws : List (Str × V)),
  mg x = some (.ref a) ∧ tb.T[f]? = some F ∧ FunD c.K nm qn params body sc dvs kws a fd ∧ (∀ (s : Shared) (us : List Value), us.length = (N.take F.par).length → BindsTo s fd ⟨us, []⟩ ((N.take F.par).zip us)) ∧ chkFn tb N F sc body = true
def FunAtC (c : Ct) (tb : Tb) (mg : Str → Option Value) (x : Str) (f : Nat) : Prop := ∃ (a : Addr) (fd : FuncData) (F : Fn) (N : List Str) (nm qn : Str) (params : Arguments) (body : List Stmt) (sc : Scope) (dvs : List V) (kws : List (Str × V)),
  mg x = some (.ref a) ∧ tb.T[f]? = some F ∧ FunD c.K nm qn params body sc dvs kws a fd ∧ (∀ (s : Shared) (us : List Value), us.length = (N.take F.par).length → BindsTo s fd ⟨us, []⟩ ((N.take F.par).zip us)) ∧ chkFn (coldT tb) N F sc body = true ∧ tlvs F.body = 0
structure TopOk (c : Ct) (tb : Tb) (P : Program) (w : World) (mg : Str → Option Value) : Prop where
  kit : KitOk c tb.P tb.P.ok
  gle : tb.P.gl = c.gl
  con : ∀ x i, tb.gn.lookup x = some i → ∃ u, mg x = some u ∧ RelV (c.gv i) u
  bi : ∀ x, tb.bi.contains x = true → mg x = none
  cls : ∀ x i, tb.cn.lookup x = some i → mg x = some (.ref (c.ca i))
  rk : ∀ base, RkOk c tb.rk tb.df P w mg base
  ob : ObT c tb mg
  cold : ∀ x f, (x, f) ∈ tb.cold → FunAtC c tb mg x f
def FunsAt (c : Ct) (tb : Tb) (mg : Str → Option Value) : Prop := ∀ x f, (x, f) ∈ tb.fn → FunAt c tb mg x f
section
variable {c : Ct} {tb : Tb} {P : Program} {w : World} {mg : Str → Option Value} {base : Heap}
theorem repS_start {wd : Wd} {H : Hp} {ds : List D} {vs : List V} {N : List Str} {n : Nat} (hn : n = N.length) (r : RepL c wd H ds vs) : RepS c wd H (startS n ds) (L2.start N vs) := by
  subst hn
  refine ⟨by simp [startS, L2.start, r.len], fun i d e => ?_⟩
  unfold startS at e
  by_cases hi : i < ds.length
  · rw [List.getElem?_append_left (by simpa using hi), List.getElem?_map] at e
    cases e2 : ds[i]? with
    | none => rw [e2] at e; cases e
    | some d' =>
      rw [e2] at e
      cases e
      obtain ⟨v, e3, rv⟩ := r.get e2
      refine ⟨v, ?_, rv⟩
      unfold L2.start
      rw [List.getElem?_append_left (by rw [List.length_map, ← r.len]; exact hi), List.getElem?_map, e3]
      rfl
  · rw [List.getElem?_append_right (by simpa using hi), List.getElem?_replicate] at e
    split at e <;> cases e
theorem okS_of_end {wd : Wd} {H : Hp} {r : OutS} {Q : VK} {E : XK} (h : OkG c (Rep c) wd H (endS r) Q E) : OkS c wd H r { nx := fun _ H' => Q .non H', rt := Q } (fun cls d _ H => E cls d H) := by
  cases r with
  | ok f σ M =>
    cases f with
    | nx => exact fun w' H' τ s S R => h w' H' .non s S (rep_non.mpr rfl)
    | brk => exact h.elim
    | cnt => exact h.elim
    | ret d => exact fun w' H' v s S R => h w' H' v s S R
  | exn x fs σ M => exact fun w' H' τ dd s S R rx => h w' H' dd s S rx
  | bad => exact h
theorem fn_step {lvl : Nat} {F : Fn} {f : Nat} {N : List Str} {x y : Str} {params : Arguments} {body : List Stmt} {sc : Scope} {dvs : List V} {kws : List (Str × V)} {a : Addr} {fd : FuncData}
    (T : TopOk c tb P w mg) (hF : FnsOk c tb P w mg base (L2.CX P w) (2 * lvl + 3) (run tb.P tb.T lvl)) (hC : FnsOk c (coldT tb) P w mg base (L2N.CX P w) (2 * lvl + 3) (run tb.P tb.T lvl)) (ht : tb.T[f]? = some F) (hd : FunD c.K y x params body sc dvs kws a fd) (hk : chkFn tb N F sc body = true) :
    FnOk P w c.K mg base (L2.CX P w) (2 * lvl + 3 + 1 + 1) a fd (N.take F.par) (spF c (run tb.P tb.T (lvl + 1)) f) := by
  unfold chkFn at hk
  simp only [Bool.and_eq_true, decide_eq_true_eq] at hk
  obtain ⟨⟨⟨⟨k1, k2⟩, k3⟩, k4⟩, k5⟩ := hk
  have hsc := scB_ok k1
  have hrun : ∀ ds M, run tb.P tb.T (lvl + 1) f ds M = if ds.length = F.par then endS (exSs tb.P (run tb.P tb.T lvl) F.body (startS F.slots ds) M) else .bad := by
    intro ds M
    show (match tb.T[f]? with | some F => _ | none => _) = _
    rw [ht]
  have hlen : (N.take F.par).length = F.par := by rw [List.length_take]; omega
  refine hd.ok hsc (fun vs H Q E h => ?_) fun cdv A outer s H vs Q E hr h => ?_
  · obtain ⟨wd, M, ds, S, r, q⟩ := h
    rw [hrun] at q
    split at q
    · rename_i e
      rw [hlen, ← r.len, e]
    · exact q.elim
  · obtain ⟨wd, M, ds, S, r, q⟩ := h
    rw [hrun] at q
    split at q
    · rename_i e
      have hex : (cxOf (L2.CX P w) P w c.K mg base N x sc a cdv A outer s H E).xe = fun e s' => wpAny (model P w) (A.deeper (envOfC x sc s.heap.objs.size a cdv)) (leaving (envOfC x sc s.heap.objs.size a cdv) e) (fun _ s'' => L2.CX P w outer H s E e s'') (fun e' s'' => L2.CX P w outer H s E e' s'') s' := rfl
      have tk : Takes (cxOf (L2.CX P w) P w c.K mg base N x sc a cdv A outer s H E) (fun cls d _ H => E cls d H) := takes_of rfl rfl rfl hex
      have so : SOk c tb (run tb.P tb.T lvl) (2 * lvl + 3) (L2.CX P w) 2 N sc (fun cls d _ H => E cls d H) (cxOf (L2.CX P w) P w c.K mg base N x sc a cdv A outer s H E) := by
        refine ⟨⟨rfl, ⟨rfl, hsc.nd, rfl, fun _ _ => rfl⟩, rfl, T.kit, T.gle, T.con, T.bi, T.cls, hF.2, hr, hF.1, fun τ => passAt tk τ, fun outer H s u s' q => ?_, T.rk base, by omega⟩, passes_of hex, hsc.kind, by decide, fun _ => rfl, fun z => by omega, fun _ => tk, takesN tk, fun _ hd => L2H.passesAt_of hex hd, fun _ => hC, T.rk base, by omega, rfl, rfl⟩
        obtain ⟨_, _, _, _, _, _, _, _, _, _, _, _, z⟩ := q
        exact z
      refine ⟨_, soundSs F.body so k4 k5, wd, M, startS F.slots ds, S, repS_start k2 r, okS_of_end q⟩
    · exact q.elim
theorem fn_stepN {lvl : Nat} {F : Fn} {f : Nat} {N : List Str} {x y : Str} {params : Arguments} {body : List Stmt} {sc : Scope} {dvs : List V} {kws : List (Str × V)} {a : Addr} {fd : FuncData}
    (T : TopOk c tb P w mg) (hF : FnsOk c (coldT tb) P w mg base (L2N.CX P w) (2 * lvl + 3) (run tb.P tb.T lvl)) (ht : tb.T[f]? = some F) (hd : FunD c.K y x params body sc dvs kws a fd) (hk : chkFn (coldT tb) N F sc body = true) (h0 : tlvs F.body = 0) :
    FnOk P w c.K mg base (L2N.CX P w) (2 * lvl + 3 + 1 + 1) a fd (N.take F.par) (spF c (run tb.P tb.T (lvl + 1)) f) := by
  unfold chkFn at hk
  simp only [Bool.and_eq_true, decide_eq_true_eq] at hk
  obtain ⟨⟨⟨⟨k1, k2⟩, k3⟩, k4⟩, _⟩ := hk
  have hsc := scB_ok k1
  have hrun : ∀ ds M, run tb.P tb.T (lvl + 1) f ds M = if ds.length = F.par then endS (exSs tb.P (run tb.P tb.T lvl) F.body (startS F.slots ds) M) else .bad := by
    intro ds M
    show (match tb.T[f]? with | some F => _ | none => _) = _
    rw [ht]
  have hlen : (N.take F.par).length = F.par := by rw [List.length_take]; omega
  refine hd.ok hsc (fun vs H Q E h => ?_) fun cdv A outer s H vs Q E hr h => ?_
  · obtain ⟨wd, M, ds, S, r, q⟩ := h
    rw [hrun] at q
    split at q
    · rename_i e
      rw [hlen, ← r.len, e]
    · exact q.elim
  · obtain ⟨wd, M, ds, S, r, q⟩ := h
    rw [hrun] at q
    split at q
    · rename_i e
      have hex : (cxOf (L2N.CX P w) P w c.K mg base N x sc a cdv A outer s H E).xe = fun e s' => wpAny (model P w) (A.deeper (envOfC x sc s.heap.objs.size a cdv)) (leaving (envOfC x sc s.heap.objs.size a cdv) e) (fun _ s'' => L2N.CX P w outer H s E e s'') (fun e' s'' => L2N.CX P w outer H s E e' s'') s' := rfl
      have tk : L2N.Takes (cxOf (L2N.CX P w) P w c.K mg base N x sc a cdv A outer s H E) (fun cls d _ H => E cls d H) := L2N.takes_of rfl rfl rfl hex
      have so : SOk c (coldT tb) (run tb.P tb.T lvl) (2 * lvl + 3) (L2N.CX P w) 0 N sc (fun cls d _ H => E cls d H) (cxOf (L2N.CX P w) P w c.K mg base N x sc a cdv A outer s H E) := by
        refine ⟨⟨rfl, ⟨rfl, hsc.nd, rfl, fun _ _ => rfl⟩, rfl, T.kit, T.gle, T.con, T.bi, T.cls, hF.2, hr, hF.1, fun τ => L2N.passAt tk τ, fun outer H s u s' q => ?_, T.rk base, by omega⟩, passes_of hex, hsc.kind, by decide, fun z => by omega, fun _ => rfl, fun z => by omega, tk, fun z => by omega, fun z => by omega, T.rk base, by omega, rfl, rfl⟩
        obtain ⟨_, _, _, _, _, _, _, _, _, _, _, _, z⟩ := q
        exact z
      refine ⟨_, soundSs F.body so k4 (Nat.le_of_eq h0), wd, M, startS F.slots ds, S, repS_start k2 r, okS_of_end q⟩
    · exact q.elim
theorem binds_of {K : PySem.W.Frag} {fd : FuncData} {ps : List Str} (h : ∀ (s : Shared) (us : List Value), us.length = ps.length → BindsTo s fd ⟨us, []⟩ (ps.zip us)) : Binds K fd ps [] := fun s us _ hl => by
  rw [List.append_nil] at hl ⊢
  exact h s us hl
theorem fn_zero {CX : CXT} {f : Nat} {N : List Str} {a : Addr} {fd : FuncData} : FnOk P w c.K mg base CX 3 a fd N (spF c (run tb.P tb.T 0) f) := by
  have z : ∀ {vs H Q E}, ¬ spF c (run tb.P tb.T 0) f vs H Q E := fun ⟨_, _, _, _, _, q⟩ => q
  exact ⟨fun _ _ _ _ h => (z h).elim, fun _ _ _ _ _ _ _ _ _ _ _ _ _ h => (z h).elim⟩
theorem fns_of {lvl : Nat} {Φ : Orc} (T : TopOk c tb P w mg) (hF : FunsAt c tb mg) (k : ∀ {F : Fn} {f : Nat} {N : List Str} {x y : Str} {params : Arguments} {body : List Stmt} {sc : Scope} {dvs : List V} {kws : List (Str × V)} {a : Addr} {fd : FuncData}, tb.T[f]? = some F → FunD c.K y x params body sc dvs kws a fd → chkFn tb N F sc body = true →
    FnOk P w c.K mg base (L2.CX P w) lvl a fd (N.take F.par) (spF c Φ f)) : FnsOk c tb P w mg base (L2.CX P w) lvl Φ := by
  have B := T.ob
  have one : ∀ {a f}, FunC c tb a f → ∃ fd ps, Binds c.K fd ps [] ∧ FnOk P w c.K mg base (L2.CX P w) lvl a fd ps (spF c Φ f) := by
    intro a f ⟨fd, F, N, nm, qn, params, body, sc, dvs, kws, ht, hd, hb, hk⟩
    exact ⟨fd, N.take F.par, binds_of hb, k ht hd hk⟩
  refine ⟨⟨B.a0, B.an, B.na, B.nd, B.dis, B.on, B.cl, fun y x f _ e => ?_, fun x i f n0 hn0 e => ?_⟩, fun x f e => ?_⟩
  · obtain ⟨a, hm, hc⟩ := B.mkr x f e
    obtain ⟨fd, ps, hb, F⟩ := one hc
    exact ⟨a, fd, ps, hm, hb, F⟩
  · obtain ⟨hi, n, a, hn, hm, hc⟩ := B.mt x i f e
    obtain ⟨fd, ps, hb, F⟩ := one hc
    obtain rfl : n0 = n := by rw [hn0] at hn; exact Option.some.inj hn
    exact ⟨hi, a, fd, ps, hm, hb, F⟩
  · obtain ⟨a, fd, F, N, nm, qn, params, body, sc, dvs, kws, hm, ht, hd, hb, hk⟩ := hF x f e
    exact ⟨a, fd, N.take F.par, hm, hd.kp, binds_of hb, k ht hd hk⟩
theorem fns_ofN {lvl : Nat} {Φ : Orc} (T : TopOk c tb P w mg) (k : ∀ {F : Fn} {f : Nat} {N : List Str} {x y : Str} {params : Arguments} {body : List Stmt} {sc : Scope} {dvs : List V} {kws : List (Str × V)} {a : Addr} {fd : FuncData}, tb.T[f]? = some F → FunD c.K y x params body sc dvs kws a fd → chkFn (coldT tb) N F sc body = true → tlvs F.body = 0 →
    FnOk P w c.K mg base (L2N.CX P w) lvl a fd (N.take F.par) (spF c Φ f)) : FnsOk c (coldT tb) P w mg base (L2N.CX P w) lvl Φ := by
  have B := T.ob
  refine ⟨⟨B.a0, B.an, B.na, B.nd, fun m hm => (nomatch hm), fun x i e => (nomatch e), B.cl, fun y x f e _ => (nomatch e), fun x i f n e _ => by simp [coldT] at e⟩, fun x f e => ?_⟩
  obtain ⟨a, fd, F, N, nm, qn, params, body, sc, dvs, kws, hm, ht, hd, hb, hk, h0⟩ := T.cold x f e
  exact ⟨a, fd, N.take F.par, hm, hd.kp, binds_of hb, k ht hd hk h0⟩
theorem fns_okN (T : TopOk c tb P w mg) : ∀ lvl, FnsOk c (coldT tb) P w mg base (L2N.CX P w) (2 * lvl + 3) (run tb.P tb.T lvl)
  | 0 => fns_ofN T fun _ _ _ _ => fn_zero
  | lvl + 1 => fns_ofN T fun ht hd hk h0 => fn_stepN T (fns_okN T lvl) ht hd hk h0
theorem fns_ok (T : TopOk c tb P w mg) (hF : FunsAt c tb mg) : ∀ lvl, FnsOk c tb P w mg base (L2.CX P w) (2 * lvl + 3) (run tb.P tb.T lvl)
  | 0 => fns_of T hF fun _ _ _ => fn_zero
  | lvl + 1 => fns_of T hF fun ht hd hk => fn_step T (fns_ok T hF lvl) (fns_okN T lvl) ht hd hk
theorem law_sp {k f : Nat} {ns : List Int} {a : Addr} {H : Hp} (hr : ∃ M, run tb.P tb.T k f [.lst (ns.map D.int)] [] = .ok (.bl true) M) (hl : ns.length ≤ 16777216) (hs : SqL c.K H a (ns.map V.int)) (hg : ∀ (k : Nat) (d : D), c.gl[k]? = some d → noRef d = true ∧ Rep c ⟨fun _ => False, []⟩ H d (c.gv k)) :
    spF c (run tb.P tb.T k) f [.ref a] H (fun v _ => v = .bl true) fun _ _ _ => False := by
  obtain ⟨M, e⟩ := hr
  have S : Sim c ⟨fun _ => False, []⟩ [] H := ⟨rfl, .nil, fun _ h => h.elim, fun i a mo e _ => by simp at e, hg⟩
  have rl : ∀ ns : List Int, RepL c ⟨fun _ => False, []⟩ H (ns.map D.int) (ns.map V.int) := by
    intro ns
    induction ns with
    | nil => exact RepL.nil
    | cons n ns ih => exact RepL.cons (rep_int.mpr rfl) ih
  refine ⟨⟨fun _ => False, []⟩, [], _, S, RepL.cons (rep_lst.mpr ⟨a, _, rfl, ?_, by rw [List.length_map, sizeLine_eq]; exact hl, rl ns⟩) RepL.nil, ?_⟩
  · rcases hs with h | h
    · exact .inl ⟨fun z => z.elim (fun z => nomatch z) id, h⟩
    · exact .inr h
  · rw [e]
    exact fun w' H' v s S' r => rep_bl.mp r
end
theorem law_walk {l : PySem.W.OpenLaw} {n k lf : Nat} {q : Program} {loose : List Str} {XP : (Str → Option Value) → Heap → Prop} {YP : World → Heap → Prop} {d : DefRec} {tb : Tb}
    (hn : l.most = some n) (hn2 : n ≤ sizeLine) (hdf : d.params.defaults = []) (hr : Room (2 * k + 3) callerA) (hlk : tb.fn.lookup d.name = some lf)
    (F : ∀ (w : World) (mg : Str → Option Value) (fa : Addr) (h : Heap), YP w h → h.Ns mainGlobals mg → mg d.name = some (.ref fa) →
      ∃ c : Ct, c.K.In h ∧ TopOk c tb l.prog w mg ∧ FunsAt c tb mg ∧ ∀ H, Only H → ∀ (k : Nat) (d : D), c.gl[k]? = some d → noRef d = true ∧ Rep c ⟨fun _ => False, []⟩ H d (c.gv k))
    (hrun : ∀ ns : List Int, ns.length ≤ n → (∀ z ∈ ns, Builtin.Int.intBits z ≤ 1048576) → ∃ M, run tb.P tb.T k lf [.lst (ns.map D.int)] [] = .ok (.bl true) M) :
    PySem.W.WalkO q loose XP YP l.row.toRowW d [] (fun f vs => PySem.call f vs) := by
  refine Att.attach_callB hn hdf fun w s₀ s₁ mg mb fa o pm cd doc a vs ns G Y ho hd hcd hmg hobj hints hlen hbits hg => ?_
  obtain ⟨c, KX, T, hF, hgl⟩ := F w mg fa _ Y G.T.g hmg
  have hns : ns.length ≤ 16777216 := by have := Nat.le_trans hlen hn2; rw [sizeLine_eq] at this; exact this
  have sp : ∀ H : Hp, Only H → SqL c.K H a (ns.map V.int) → spF c (run tb.P tb.T k) lf [.ref a] H (fun v _ => v = .bl true) fun _ _ _ => False := fun H hO hS => law_sp (hrun ns hlen hbits) hns hS (hgl H hO)
  obtain ⟨a', fd, F1, N, nm, qn, params, body, sc, dvs, kws, hm, ht, hdd, hb, hk⟩ := hF d.name lf (PySem.mem_of_lookup hlk)
  have e : a' = fa := by rw [hm] at hmg; cases hmg; rfl
  subst e
  have hrn := hrun ns hlen hbits
  cases k with
  | zero => obtain ⟨M, z⟩ := hrn; cases z
  | succ k =>
    obtain ⟨y, hy⟩ : ∃ y, N.take F1.par = [y] := by
      obtain ⟨M, z⟩ := hrn
      have z2 : (match tb.T[lf]? with | some F => if ([D.lst (ns.map D.int)]).length = F.par then endS (exSs tb.P (run tb.P tb.T k) F.body (startS F.slots [D.lst (ns.map D.int)]) []) else .bad | none => .bad) = .ok (.bl true) M := z
      rw [ht] at z2
      simp only at z2
      split at z2
      · rename_i e
        unfold chkFn at hk
        simp only [Bool.and_eq_true, decide_eq_true_eq] at hk
        have hl : (N.take F1.par).length = 1 := by rw [List.length_take]; simp only [List.length_cons, List.length_nil] at e; omega
        exact List.length_eq_one_iff.mp hl
      · cases z2
    refine law_call (fd := fd) (CX := L2.CX l.prog w) (x := y) KX G.T.g G.T.b G.T.builtins G.T.nolimit hg hobj hints (Nat.le_trans hlen hn2) hr (fun base _ _ => ?_) (fun s u => ?_) sp fun H e s' z => ?_
    · rw [← hy]
      exact fn_step T (fns_ok T hF k) (fns_okN T k) ht hdd hk
    · have z := hb s [u] (by rw [hy]; rfl)
      rw [hy] at z
      exact z
    · obtain ⟨_, _, _, _, _, _, _, _, _, _, _, _, z⟩ := z
      exact z
end Fw
namespace Fw
open PySem
section
variable {P : Pg} {Φ : Orc} {σ : Sl} {M : Hh}
@[simp] theorem ev_var (i : Nat) : evE P Φ (.var i) σ M = match σ[i]? with | some (some d) => .ok d M | _ => .bad := by simp only [evE] <;> rfl
@[simp] theorem ev_lit (d : D) : evE P Φ (.lit d) σ M = .ok d M := by simp only [evE]
@[simp] theorem ev_glo (k : Nat) : evE P Φ (.glo k) σ M = match P.gl[k]? with | some d => .ok d M | none => .bad := by simp only [evE] <;> rfl
@[simp] theorem ev_bin (m : Bool) (op : BOp) (a b : E) : evE P Φ (.bin m op a b) σ M = (evE P Φ a σ M).bind fun x M1 => (evE P Φ b σ M1).bind fun y M2 => binD m op x y M2 := by simp only [evE]
@[simp] theorem ev_neg (a : E) : evE P Φ (.neg a) σ M = (evE P Φ a σ M).bind negD := by simp only [evE]
@[simp] theorem ev_not (a : E) : evE P Φ (.not a) σ M = (evE P Φ a σ M).bind notD := by simp only [evE]
@[simp] theorem ev_cmp (op : COp) (a b : E) : evE P Φ (.cmp op a b) σ M = (evE P Φ a σ M).bind fun x M1 => (evE P Φ b σ M1).bind fun y M2 => outB (cmpD op x y M2) M2 := by simp only [evE]
@[simp] theorem ev_cmp2 (o1 o2 : COp) (a b c : E) : evE P Φ (.cmp2 o1 o2 a b c) σ M = (evE P Φ a σ M).bind fun x M1 => (evE P Φ b σ M1).bind fun y M2 => (outB (cmpD o1 x y M2) M2).bind fun b _ => ifB b .bad ((evE P Φ c σ M2).bind fun z M3 => outB (cmpD o2 y z M3) M3) (.ok (.bl false) M2) := by simp only [evE]
@[simp] theorem ev_and (a b : E) : evE P Φ (.and a b) σ M = (evE P Φ a σ M).bind fun x M1 => ifB x .bad (evE P Φ b σ M1) (.ok (.bl false) M1) := by simp only [evE]
@[simp] theorem ev_or (a b : E) : evE P Φ (.or a b) σ M = (evE P Φ a σ M).bind fun x M1 => ifB x .bad (.ok (.bl true) M1) (evE P Φ b σ M1) := by simp only [evE]
@[simp] theorem ev_ite (c a b : E) : evE P Φ (.ite c a b) σ M = (evE P Φ c σ M).bind fun x M1 => ifB x .bad (evE P Φ a σ M1) (evE P Φ b σ M1) := by simp only [evE]
@[simp] theorem ev_tup (es : List E) : evE P Φ (.tup es) σ M = (evL P Φ es σ M).bind fun ds M1 => .ok (.tup ds) M1 := by simp only [evE]
@[simp] theorem ev_lst (m : Bool) (es : List E) : evE P Φ (.lst m es) σ M = (evL P Φ es σ M).bind fun ds M1 => mkL m ds M1 := by simp only [evE]
@[simp] theorem ev_idx (a b : E) : evE P Φ (.idx a b) σ M = (evE P Φ a σ M).bind fun x M1 => (evE P Φ b σ M1).bind fun y M2 => idxD x y M2 := by simp only [evE]
@[simp] theorem ev_sl (m : Bool) (a lo hi : E) : evE P Φ (.sl m a lo hi) σ M = (evE P Φ a σ M).bind fun x M1 => (partD (isLN lo) (evE P Φ lo σ M1)).bind fun l M2 => (partD (isLN hi) (evE P Φ hi σ M2)).bind fun h M3 => slD m x l h M3 := by simp only [evE]
@[simp] theorem ev_callT (f : Nat) (es : List E) : evE P Φ (.call true f es) σ M = (evL P Φ es σ M).bind fun ds M1 => if noRefL ds = true then ownD (Φ f ds []) M1 else .bad := by simp only [evE, if_true]
@[simp] theorem ev_callF (f : Nat) (es : List E) : evE P Φ (.call false f es) σ M = (evL P Φ es σ M).bind fun ds M1 => Φ f ds M1 := by simp only [evE, Bool.false_eq_true, if_false]
@[simp] theorem ev_callA (f : Nat) (es : List E) : evE P Φ (.callA f es) σ M = (evL P Φ es σ M).bind fun ds M1 => if noRefL ds = true then adoptD (Φ f ds []) M1 else .bad := by simp only [evE]
@[simp] theorem ev_callS (f : Nat) (es : List E) : evE P Φ (.callS f es) σ M = (evL P Φ es σ M).bind fun ds M1 => if noRefL (ds.map (snap M1 8)) = true then lendD (Φ f (ds.map (snap M1 8)) []) M1 else .bad := by simp only [evE]
@[simp] theorem ev_bi (m : Bool) (b : Bi) (es : List E) : evE P Φ (.bi m b es) σ M = (evL P Φ es σ M).bind fun ds M1 => biD m b ds M1 := by simp only [evE]
@[simp] theorem ev_bm (m : Bool) (b : Bm) (o : E) (es : List E) : evE P Φ (.bm m b o es) σ M = (evE P Φ o σ M).bind fun x M1 => if bmOk b x M1 = true then (evL P Φ es σ M1).bind fun ds M2 => bmD m b x ds M2 else .bad := by simp only [evE]
@[simp] theorem ev_isi (a : E) (ts : List Ty) : evE P Φ (.isi a ts) σ M = (evE P Φ a σ M).bind fun x M1 => outB (isTys P M1 x ts) M1 := by simp only [evE]
@[simp] theorem ev_comp0 (m : Bool) (tg : List Nat) (k : ItK) (its : List E) (e : E) : evE P Φ (.comp m tg k its none e) σ M = (evL P Φ its σ M).bind fun vs M1 => match itsD k vs M1 with
    | some (xs, g) => if line < xs.length then .bad else (endG g (compL (fun d => bindTg tg d σ) (fun _ M => .ok (.bl true) M) (evE P Φ e) g xs [] M1)).bind fun ys M2 => mkL m ys M2
    | none => .bad := by simp only [evE] <;> rfl
@[simp] theorem ev_comp1 (m : Bool) (tg : List Nat) (k : ItK) (its : List E) (c e : E) : evE P Φ (.comp m tg k its (some c) e) σ M = (evL P Φ its σ M).bind fun vs M1 => match itsD k vs M1 with
    | some (xs, g) => if line < xs.length then .bad else (endG g (compL (fun d => bindTg tg d σ) (evE P Φ c) (evE P Φ e) g xs [] M1)).bind fun ys M2 => mkL m ys M2
    | none => .bad := by simp only [evE] <;> rfl
@[simp] theorem ev_dict (t : DKd) (ks vs : List E) : evE P Φ (.dict t ks vs) σ M = match dispE t ks vs with
    | some (ds, es) => .ok (.ref M.length) (M ++ [.dic t ds es])
    | none => .bad := by simp only [evE] <;> rfl
@[simp] theorem ev_rev (m : Bool) (a : E) : evE P Φ (.rev m a) σ M = (evE P Φ a σ M).bind fun x M1 => revD m x M1 := by simp only [evE]
@[simp] theorem ev_new (c : Nat) (es : List E) : evE P Φ (.new c es) σ M = (evL P Φ es σ M).bind fun ds M1 => match P.ini c with
    | some f => newD M1.length (Φ f (.ref M1.length :: ds) (M1 ++ [.obj c []]))
    | none => .bad := by simp only [evE] <;> rfl
@[simp] theorem ev_meth (k : Nat) (o : E) (es : List E) : evE P Φ (.meth k o es) σ M = (evE P Φ o σ M).bind fun x M1 => match x with
    | .ref i => match M1[i]? with
      | some (.obj c fs) => match P.mth c k with
        | some f => (evL P Φ es σ M1).bind fun ds M2 => Φ f (.ref i :: ds) M2
        | none => .bad
      | _ => .bad
    | _ => .bad := by simp only [evE] <;> rfl
@[simp] theorem ev_exv (c : Nat) (es : List E) : evE P Φ (.exv c es) σ M = (evL P Φ es σ M).bind fun ds M1 => match ds with
    | [d] => if P.ok c = true then .ok (.exc c [d]) M1 else .bad
    | _ => .bad := by simp only [evE] <;> rfl
@[simp] theorem ev_disp (ks : List D) (vs : List E) : evE P Φ (.disp ks vs) σ M = (evL P Φ vs σ (M ++ [.dic .one [] []])).bind fun es M1 => dispD M.length ks es M1 := by simp only [evE]
@[simp] theorem ev_lens (a : E) : evE P Φ (.lens a) σ M = (evE P Φ a σ M).bind fun x M1 => lensetD [x] M1 := by simp only [evE]
@[simp] theorem ev_orv (a b : E) : evE P Φ (.orv a b) σ M = (evE P Φ a σ M).bind fun x M1 => orD (truD M1 x) x M1 (evE P Φ b σ M1) := by simp only [evE]
@[simp] theorem ev_dzip (a b : E) : evE P Φ (.dzip a b) σ M = (evE P Φ a σ M).bind fun x M1 => (evE P Φ b σ M1).bind fun y M2 => dzipD x y M2 := by simp only [evE]
theorem ev_compD0 (m : Bool) (tg : List Nat) (i : Nat) (e : E) : evE P Φ (.compD m tg i none e) σ M = (match lockD σ i M with
    | some (k, ks, vs) => if line < ks.length then .bad else (unlkD k ks vs (compL (fun d => bindTg tg d σ) (fun _ M => .ok (.bl true) M) (evE P Φ e) [] ks [] (M.set k (.lck ks vs)))).bind fun ys M2 => mkL m ys M2
    | none => .bad) := by simp only [evE] <;> rfl
theorem ev_compD1 (m : Bool) (tg : List Nat) (i : Nat) (t e : E) : evE P Φ (.compD m tg i (some t) e) σ M = (match lockD σ i M with
    | some (k, ks, vs) => if line < ks.length then .bad else (unlkD k ks vs (compL (fun d => bindTg tg d σ) (evE P Φ t) (evE P Φ e) [] ks [] (M.set k (.lck ks vs)))).bind fun ys M2 => mkL m ys M2
    | none => .bad) := by simp only [evE] <;> rfl
@[simp] theorem ev_lzip (m : Bool) (a b : E) : evE P Φ (.lzip m a b) σ M = (evE P Φ a σ M).bind fun x M1 => (evE P Φ b σ M1).bind fun y M2 => lzipD m x y M2 := by simp only [evE]
@[simp] theorem ev_tupC (es : List E) : evE P Φ (.tupC es) σ M = (evL P Φ es σ M).bind fun ds M1 => if ds.all isIntD = true then .ok (.dic [] ds) M1 else .bad := by simp only [evE]
@[simp] theorem ev_idxL (a b : E) : evE P Φ (.idxL a b) σ M = (evE P Φ a σ M).bind fun x M1 => (evE P Φ b σ M1).bind fun y M2 => idxLD x y M2 := by simp only [evE]
@[simp] theorem ev_callV (i : Nat) (fs : List Nat) (es : List E) : evE P Φ (.callV i fs es) σ M = (match σ[i]? with
    | some (some (.cls x)) => if fs.contains x = true then (evL P Φ es σ M).bind fun ds M1 => Φ (x - 500) ds M1 else .bad
    | _ => .bad) := by simp only [evE] <;> rfl
theorem ev_compX0 (m : Bool) (tg : List Nat) (k : ItK) (its : List E) (e : E) : evE P Φ (.compX m tg k its none e) σ M = (evL P Φ its σ M).bind fun vs M1 => match itsD k vs M1 with
    | some (xs, g) => if line < xs.length then .bad else (endX g (compL (fun d => bindTg tg d σ) (fun _ M => .ok (.bl true) M) (evE P Φ e) g xs [] M1)).bind fun ys M2 => mkL m ys M2
    | none => .bad := by simp only [evE] <;> rfl
theorem ev_compX1 (m : Bool) (tg : List Nat) (k : ItK) (its : List E) (c e : E) : evE P Φ (.compX m tg k its (some c) e) σ M = (evL P Φ its σ M).bind fun vs M1 => match itsD k vs M1 with
    | some (xs, g) => if line < xs.length then .bad else (endX g (compL (fun d => bindTg tg d σ) (evE P Φ c) (evE P Φ e) g xs [] M1)).bind fun ys M2 => mkL m ys M2
    | none => .bad := by simp only [evE] <;> rfl
theorem ex_loopD (tg : List Nat) (i : Nat) (b : List S) : exS P Φ (.loopD tg i b) σ M = (match lockD σ i M with
    | some (k, ks, vs) => if line < ks.length then .bad else unlkS k ks vs (forL (bindTg tg) (exSs P Φ b) [] ks σ (M.set k (.lck ks vs)))
    | none => .bad) := by simp only [exS] <;> rfl
@[simp] theorem ev_nil : evL P Φ [] σ M = .ok [] M := by simp only [evL]
@[simp] theorem ev_cons (e : E) (es : List E) : evL P Φ (e :: es) σ M = (evE P Φ e σ M).bind fun x M1 => (evL P Φ es σ M1).bind fun xs M2 => .ok (x :: xs) M2 := by simp only [evL]
@[simp] theorem ex_nil : exSs P Φ [] σ M = .ok .nx σ M := by simp only [exSs]
@[simp] theorem ex_cons (s : S) (r : List S) : exSs P Φ (s :: r) σ M = (exS P Φ s σ M).next fun σ1 M1 => exSs P Φ r σ1 M1 := by simp only [exSs]
@[simp] theorem ex_name (i : Nat) (e : E) : exS P Φ (.asg (.name i) e) σ M = (evE P Φ e σ M).st σ fun d M1 => .ok .nx (σ.set i (some d)) M1 := by simp only [exS]
@[simp] theorem ex_names (l : Bool) (is : List Nat) (e : E) : exS P Φ (.asg (.names l is) e) σ M = (evE P Φ e σ M).st σ fun d M1 => match (if l then seqOf M1 d else match d with | .tup xs => some xs | _ => none) with
      | some ds => match setAll is ds σ with
        | some σ1 => .ok .nx σ1 M1
        | none => .bad
      | none => .bad := by simp only [exS] <;> rfl
@[simp] theorem ex_sub (o i : E) (e : E) : exS P Φ (.asg (.sub o i) e) σ M = (evE P Φ e σ M).st σ fun d M1 => (evE P Φ o σ M1).st σ fun x M2 => (evE P Φ i σ M2).st σ fun y M3 => match subD d x y M3 with
      | some M4 => .ok .nx σ M4
      | none => .bad := by simp only [exS] <;> rfl
@[simp] theorem ex_fld (o : E) (f : Nat) (e : E) : exS P Φ (.asg (.fld o f) e) σ M = (evE P Φ e σ M).st σ fun d M1 => (evE P Φ o σ M1).st σ fun x M2 => match fldD P.ini d x f M2 with
      | some M4 => .ok .nx σ M4
      | none => .bad := by simp only [exS] <;> rfl
@[simp] theorem ex_flds (i : Nat) (fs : List Nat) (e : E) : exS P Φ (.asg (.flds i fs) e) σ M = (evE P Φ e σ M).st σ fun d M1 => match d with
      | .tup ds => match σ[i]? with
        | some (some x) => match putAll P.ini x fs ds M1 with
          | some M2 => .ok .nx σ M2
          | none => .bad
        | _ => .bad
      | _ => .bad := by simp only [exS] <;> rfl
@[simp] theorem ex_par (is : List Nat) (es : List E) : exS P Φ (.par is es) σ M = (evL P Φ es σ M).st σ fun ds M1 => match setAll is ds σ with
    | some σ1 => .ok .nx σ1 M1
    | none => .bad := by simp only [exS] <;> rfl
@[simp] theorem ex_expr (e : E) : exS P Φ (.expr e) σ M = (evE P Φ e σ M).st σ fun _ M1 => .ok .nx σ M1 := by simp only [exS]
@[simp] theorem ex_ite (c : E) (a b : List S) : exS P Φ (.ite c a b) σ M = (evE P Φ c σ M).st σ fun x M1 => ifB x .bad (exSs P Φ a σ M1) (exSs P Φ b σ M1) := by simp only [exS]
theorem ex_whl (c : E) (b : List S) : exS P Φ (.whl c b) σ M = whileR (evE P Φ c) (exSs P Φ b) σ M := by simp only [exS]
@[simp] theorem ex_loop (tg : List Nat) (k : ItK) (its : List E) (b : List S) : exS P Φ (.loop tg k its b) σ M = (evL P Φ its σ M).st σ fun vs M1 => match itsD k vs M1 with
    | some (xs, g) => forL (bindTg tg) (exSs P Φ b) g xs σ M1
    | none => .bad := by simp only [exS] <;> rfl
@[simp] theorem ex_retX (m : Bool) (tg : List Nat) (k : ItK) (its : List E) (e : E) : exS P Φ (.retX m tg k its e) σ M = (evE P Φ (.compX m tg k its none e) σ M).st σ fun d M1 => .ok (.ret d) σ M1 := by simp only [exS]
@[simp] theorem ex_ret (e : E) : exS P Φ (.ret e) σ M = (evE P Φ e σ M).st σ fun d M1 => .ok (.ret d) σ M1 := by simp only [exS]
@[simp] theorem ex_retN : exS P Φ .retN σ M = .ok (.ret .non) σ M := by simp only [exS]
@[simp] theorem ex_raise (c : Nat) (es : List E) : exS P Φ (.raise c es) σ M = (evL P Φ es σ M).st σ fun ds M1 => .exn c ds σ M1 := by simp only [exS]
@[simp] theorem ex_tryR (b : List S) (c c2 : Nat) (es : List E) : exS P Φ (.tryR b c c2 es) σ M = catchR P.ok P.sup c (fun σ M => (evL P Φ es σ M).st σ fun ds M1 => .exn c2 ds σ M1) (exSs P Φ b σ M) := by simp only [exS]
@[simp] theorem ex_try (b h : List S) (c : Nat) (slot : Option Nat) : exS P Φ (.try_ b c slot h) σ M = catchS P.ok P.sup c slot (exSs P Φ h) (exSs P Φ b σ M) := by simp only [exS]
@[simp] theorem ev_attr (o : E) (f : Nat) : evE P Φ (.attr o f) σ M = (evE P Φ o σ M).bind fun x M1 => attrD P.ok P.ini x f M1 := by simp only [evE]
@[simp] theorem ex_brk : exS P Φ .brk σ M = .ok .brk σ M := by simp only [exS]
@[simp] theorem ex_cnt : exS P Φ .cnt σ M = .ok .cnt σ M := by simp only [exS]
@[simp] theorem ex_pass : exS P Φ .pass σ M = .ok .nx σ M := by simp only [exS]
@[simp] theorem ev_no : evE P Φ .no σ M = .bad := by simp only [evE]
@[simp] theorem ex_no : exS P Φ .no σ M = .bad := by simp only [exS]
end
section
variable {M : Hh}
theorem mulOk_l {a b : Int} (h : a.natAbs < 2 ^ 64) : MulOk a b := IntMulOk.of_left (by
  unfold Builtin.Int.intBits
  split
  · omega
  · rename_i z
    have : a.natAbs ≠ 0 := by simpa using z
    have := (Nat.log2_lt this).mpr h
    omega)
theorem mulOk_r {a b : Int} (h : b.natAbs < 2 ^ 64) : MulOk a b := IntMulOk.of_right (by
  unfold Builtin.Int.intBits
  split
  · omega
  · rename_i z
    have : b.natAbs ≠ 0 := by simpa using z
    have := (Nat.log2_lt this).mpr h
    omega)
def Bd (n : Nat) (a : Int) : Prop := a.natAbs < 2 ^ n
theorem Bd.bits {n : Nat} {a : Int} (h : Bd n a) : Builtin.Int.intBits a ≤ n := by
  unfold Builtin.Int.intBits
  split
  · omega
  · rename_i z
    have : a.natAbs ≠ 0 := by simpa using z
    have := (Nat.log2_lt this).mpr h
    omega
theorem bd_of_bits {n : Nat} {a : Int} (h : Builtin.Int.intBits a ≤ n) : Bd n a := by
  unfold Builtin.Int.intBits at h
  unfold Bd
  split at h
  · rename_i z
    have : a = 0 := by simpa using z
    subst this
    exact Nat.two_pow_pos n
  · rename_i z
    have z' : a.natAbs ≠ 0 := by simpa using z
    exact (Nat.log2_lt z').mp (by omega)
theorem Bd.mono {n m : Nat} {a : Int} (h : Bd n a) (k : n ≤ m) : Bd m a := Nat.lt_of_lt_of_le h (Nat.pow_le_pow_right (by omega) k)
theorem Bd.mul {n m : Nat} {a b : Int} (h : Bd n a) (k : Bd m b) : Bd (n + m) (a * b) := by
  unfold Bd at *
  rw [Int.natAbs_mul, Nat.pow_add]
  exact Nat.mul_lt_mul'' h k
theorem Bd.add {n m : Nat} {a b : Int} (h : Bd n a) (k : Bd m b) : Bd (max n m + 1) (a + b) := by
  have h' := h.mono (Nat.le_max_left n m)
  have k' := k.mono (Nat.le_max_right n m)
  unfold Bd at *
  have := Int.natAbs_add_le a b
  rw [Nat.pow_succ]
  omega
theorem Bd.neg {n : Nat} {a : Int} (h : Bd n a) : Bd n (-a) := by unfold Bd at *; rw [Int.natAbs_neg]; exact h
theorem Bd.sub {n m : Nat} {a b : Int} (h : Bd n a) (k : Bd m b) : Bd (max n m + 1) (a - b) := by rw [Int.sub_eq_add_neg]; exact h.add k.neg
theorem mulOk_of {n m : Nat} {a b : Int} (h : Bd n a) (k : Bd m b) (l : n + m ≤ 134217728) : MulOk a b := by
  unfold MulOk IntMulOk
  have h1 := h.bits
  have h2 := k.bits
  have : Builtin.Int.intTooBig ((Builtin.Int.intBits a : Int) + (Builtin.Int.intBits b : Int)) = false := by
    unfold Builtin.Int.intTooBig bitsLine
    apply decide_eq_false
    have : (2 : Nat) ^ 27 = 134217728 := by decide
    rw [this]
    omega
  rw [this]
  simp
theorem divOk_of {a b : Int} (h0 : b ≠ 0) (h : b.natAbs < 2 ^ 8000) : DivOk a b := by
  refine ⟨h0, ?_⟩
  unfold Builtin.divisionGoesByPylong
  have z : b.natAbs ≠ 0 := by omega
  have l := (Nat.log2_lt z).mpr h
  have e : (if (b == 0) = true then (0 : Nat) else b.natAbs.log2 / 30 + 1) ≤ 300 := by
    split
    · omega
    · omega
  simp only [Bool.and_eq_false_iff, decide_eq_false_iff_not]
  left
  exact Nat.not_lt.mpr e
theorem divOk_bd {a b : Int} (h0 : b ≠ 0) (h : Bd 8000 b) : DivOk a b := divOk_of h0 h
theorem Bd.dvd {n : Nat} {x s u : Int} (e : x = s * u) (h0 : x ≠ 0) (h : Bd n x) : Bd n s := by
  have h2 : x.natAbs = s.natAbs * u.natAbs := by rw [e, Int.natAbs_mul]
  exact Nat.lt_of_le_of_lt (Nat.le_of_dvd (Nat.pos_of_ne_zero fun z => h0 (Int.natAbs_eq_zero.mp z)) ⟨_, h2⟩) h
theorem Bd.fac {n : Nat} {x s u : Int} (e : x = s * u) (s0 : s ≠ 0) (h : Bd n x) : Bd n u := by
  by_cases h0 : x = 0
  · have : u = 0 := by
      rcases Int.mul_eq_zero.mp (e.symm.trans h0) with z | z
      · exact absurd z s0
      · exact z
    subst this
    exact Nat.two_pow_pos n
  · exact Bd.dvd (by rw [e, Int.mul_comm]) h0 h
theorem Bd.lit {n : Nat} {x : Int} (h : decide (x.natAbs < 2 ^ n) = true) : Bd n x := of_decide_eq_true (p := x.natAbs < 2 ^ n) h
@[simp] theorem bin_int (m : Bool) (op : BOp) (i j : Int) : binD m op (.int i) (.int j) M = binI op i j M := rfl
@[simp] theorem bin_str (m : Bool) (x y : List Nat) : binD m .add (.str x) (.str y) M = if x.length + y.length ≤ line then .ok (.str (x ++ y)) M else .bad := rfl
@[simp] theorem bin_lst (m : Bool) (op : BOp) (xs : List D) (b : D) : binD m op (.lst xs) b M = seqBin m op (.lst xs) b M := rfl
@[simp] theorem bin_ref (m : Bool) (op : BOp) (i : Nat) (b : D) : binD m op (.ref i) b M = seqBin m op (.ref i) b M := rfl
@[simp] theorem binI_add (i j : Int) : binI .add i j M = .ok (.int (i + j)) M := rfl
@[simp] theorem binI_sub (i j : Int) : binI .sub i j M = .ok (.int (i - j)) M := rfl
theorem binI_mul {i j : Int} (h : MulOk i j) : binI .mul i j M = .ok (.int (i * j)) M := if_pos h
theorem binI_fdiv {i j : Int} (h : DivOk i j) : binI .fdiv i j M = .ok (.int (i.fdiv j)) M := if_pos h
theorem binI_mod {i j : Int} (h : j ≠ 0) : binI .mod i j M = .ok (.int (i.fmod j)) M := if_pos h
theorem binI_modP {i j : Int} (h : 0 < j) : binI .mod i j M = .ok (.int (i % j)) M := by
  rw [binI_mod (by omega), Int.fmod_eq_emod_of_nonneg _ (by omega)]
theorem binI_divP {i j : Int} (h : 0 < j) (k : j.natAbs < 2 ^ 8000) : binI .fdiv i j M = .ok (.int (i / j)) M := by
  rw [binI_fdiv (divOk_of (by omega) k), Int.fdiv_eq_ediv_of_nonneg _ (by omega)]
theorem small64 {j : Int} (h : decide (j.natAbs < 2 ^ 64) = true) : j.natAbs < 2 ^ 64 := of_decide_eq_true h
theorem pow8000 {j : Int} (h : j.natAbs < 2 ^ 200) : j.natAbs < 2 ^ 8000 := Nat.lt_of_lt_of_le h (Nat.pow_le_pow_right (by decide) (by decide))
@[simp] theorem outB_some (b : Bool) : outB (some b) M = .ok (.bl b) M := rfl
@[simp] theorem cmp_lt (i j : Int) : cmpD .lt (.int i) (.int j) M = some (decide (i < j)) := rfl
@[simp] theorem cmp_le (i j : Int) : cmpD .le (.int i) (.int j) M = some (decide (i ≤ j)) := rfl
@[simp] theorem cmp_gt (i j : Int) : cmpD .gt (.int i) (.int j) M = some (decide (j < i)) := rfl
@[simp] theorem cmp_ge (i j : Int) : cmpD .ge (.int i) (.int j) M = some (decide (j ≤ i)) := rfl
@[simp] theorem cmp_eq (a b : D) : cmpD .eq a b M = eqM M a b := rfl
@[simp] theorem cmp_ne (a b : D) : cmpD .ne a b M = (eqM M a b).map (!·) := rfl
@[simp] theorem snap_int (n : Nat) (i : Int) : snap M n (.int i) = .int i := by cases n <;> rfl
@[simp] theorem snap_bl (n : Nat) (i : Bool) : snap M n (.bl i) = .bl i := by cases n <;> rfl
@[simp] theorem snap_non (n : Nat) : snap M n .non = .non := by cases n <;> rfl
@[simp] theorem snap_str (n : Nat) (l : List Nat) : snap M n (.str l) = .str l := by cases n <;> rfl
@[simp] theorem snap_tup (n : Nat) (xs : List D) : snap M (n + 1) (.tup xs) = .tup (xs.map (snap M n)) := rfl
@[simp] theorem snap_lst (n : Nat) (xs : List D) : snap M (n + 1) (.lst xs) = .lst (xs.map (snap M n)) := rfl
@[simp] theorem ifB_bl {β : Type} (b : Bool) (x t f : β) : ifB (.bl b) x t f = if b = true then t else f := by cases b <;> rfl
@[simp] theorem notD_bl (b : Bool) : notD (.bl b) M = .ok (.bl (!b)) M := by cases b <;> rfl
@[simp] theorem negD_int (i : Int) : negD (.int i) M = .ok (.int (-i)) M := rfl
@[simp] theorem mkL_f (xs : List D) : mkL false xs M = .ok (.lst xs) M := rfl
@[simp] theorem mkL_t (xs : List D) : mkL true xs M = .ok (.ref M.length) (M ++ [.lst xs]) := rfl
@[simp] theorem lstOf_lst (xs : List D) : lstOf M (.lst xs) = some xs := rfl
@[simp] theorem lstOf_tup (xs : List D) : lstOf M (.tup xs) = none := rfl
@[simp] theorem seqOf_lst (xs : List D) : seqOf M (.lst xs) = some xs := rfl
@[simp] theorem seqOf_tup (xs : List D) : seqOf M (.tup xs) = some xs := rfl
theorem lstOf_ref {i : Nat} {xs : List D} (h : M[i]? = some (.lst xs)) : lstOf M (.ref i) = some xs := by simp [lstOf, h]
theorem seqOf_ref {i : Nat} {xs : List D} (h : M[i]? = some (.lst xs)) : seqOf M (.ref i) = some xs := by simp [seqOf, h]
theorem eqM_int (i j : Int) : eqM M (.int i) (.int j) = some (i == j) := by simp [eqM, plain, eqD]
theorem eqM_bl (i j : Bool) : eqM M (.bl i) (.bl j) = some (i == j) := by simp [eqM, plain, eqD]
@[simp] theorem guardOk_nil : guardOk [] M = True := by simp [guardOk]
@[simp] theorem noRefL_nil : noRefL [] = true := rfl
@[simp] theorem noRefL_cons (x : D) (xs : List D) : noRefL (x :: xs) = (noRef x && noRefL xs) := rfl
@[simp] theorem noRef_int (i : Int) : noRef (.int i) = true := rfl
@[simp] theorem noRef_bl (i : Bool) : noRef (.bl i) = true := rfl
@[simp] theorem noRef_str (i : List Nat) : noRef (.str i) = true := rfl
@[simp] theorem noRef_non : noRef .non = true := rfl
@[simp] theorem noRef_tup (xs : List D) : noRef (.tup xs) = noRefL xs := rfl
@[simp] theorem noRef_lst (xs : List D) : noRef (.lst xs) = noRefL xs := rfl
theorem noRefL_ints (ns : List Int) : noRefL (ns.map D.int) = true := by
  induction ns with
  | nil => rfl
  | cons n ns ih => simp [ih]
mutual
theorem snap_noRef : ∀ (n : Nat) (d : D), noRef d = true → snap M n d = d
  | 0, d, _ => by cases d <;> rfl
  | n + 1, .tup xs, h => by simp only [snap]; rw [snap_noRefL n xs h]
  | n + 1, .lst xs, h => by simp only [snap]; rw [snap_noRefL n xs h]
  | n + 1, .ref _, h => by simp [noRef] at h
  | n + 1, .non, _ => rfl
  | n + 1, .bl _, _ => rfl
  | n + 1, .int _, _ => rfl
  | n + 1, .str _, _ => rfl
  | n + 1, .exc _ _, _ => rfl
  | n + 1, .dic _ _, _ => rfl
  | n + 1, .cls _, _ => rfl
theorem snap_noRefL : ∀ (n : Nat) (ds : List D), noRefL ds = true → ds.map (snap M n) = ds
  | _, [], _ => rfl
  | n, d :: ds, h => by
    simp only [noRefL, Bool.and_eq_true] at h
    rw [List.map_cons, snap_noRef n d h.1, snap_noRefL n ds h.2]
end
end
section
variable {P : Pg} {T : List Fn}
theorem run_succ {k f : Nat} {ds : List D} {M : Hh} {F : Fn} (h : T[f]? = some F) (hl : ds.length = F.par) : run P T (k + 1) f ds M = endS (exSs P (run P T k) F.body (startS F.slots ds) M) := by
  show (match T[f]? with | some F => if ds.length = F.par then endS (exSs P (run P T k) F.body (startS F.slots ds) M) else .bad | none => .bad) = _
  rw [h]
  exact if_pos hl
def Ev (P : Pg) (T : List Fn) (k f : Nat) (ds : List D) (v : D) : Prop := noRef v = true ∧ ∃ d M', run P T k f ds [] = .ok d M' ∧ snap M' 8 d = v
theorem Ev.own {k f : Nat} {ds : List D} {v : D} (h : Ev P T k f ds v) (M : Hh) : ownD (run P T k f ds []) M = .ok v M := by
  obtain ⟨n, d, M', e, s⟩ := h
  rw [e]
  unfold ownD
  simp only
  rw [s, if_pos n]
theorem Ev.of {k f : Nat} {ds : List D} {v : D} {F : Fn} (h : T[f]? = some F) (hl : ds.length = F.par) (n : noRef v = true) (e : endS (exSs P (run P T k) F.body (startS F.slots ds) []) = .ok v []) : Ev P T (k + 1) f ds v :=
  ⟨n, v, [], by rw [run_succ h hl, e], snap_noRef 8 v n⟩
theorem Ev.of' {k f : Nat} {ds : List D} {v d : D} {M' : Hh} {F : Fn} (h : T[f]? = some F) (hl : ds.length = F.par) (e : endS (exSs P (run P T k) F.body (startS F.slots ds) []) = .ok d M') (s : snap M' 8 d = v) (n : noRef v = true) : Ev P T (k + 1) f ds v :=
  ⟨n, d, M', by rw [run_succ h hl, e], s⟩
@[simp] theorem endS_nx (σ : Sl) (M : Hh) : endS (.ok .nx σ M) = .ok .non M := rfl
@[simp] theorem endS_ret (d : D) (σ : Sl) (M : Hh) : endS (.ok (.ret d) σ M) = .ok d M := rfl
@[simp] theorem endS_exn (c : Nat) (fs : List D) (σ : Sl) (M : Hh) : endS (.exn c fs σ M) = .exn c fs M := rfl
end
section
variable {c : Sl → Hh → Out D} {b : Sl → Hh → OutS} {σ : Sl} {M : Hh}
theorem turn_bad {r : OutS} {k : Sl → Hh → OutS} (h : r.turn k ≠ .bad) : r ≠ .bad := fun z => h (by rw [z]; rfl)
theorem whileN_up : ∀ (n : Nat) (σ : Sl) (M : Hh), whileN c b n σ M ≠ .bad → whileN c b (n + 1) σ M = whileN c b n σ M
  | 0, _, _, h => absurd rfl h
  | n + 1, σ, M, h => by
    rw [whileN]
    conv => rhs; rw [whileN]
    rw [whileN] at h
    cases e : c σ M with
    | bad => rfl
    | exn _ _ _ => rfl
    | ok x M1 =>
      rw [e] at h
      simp only [Out.st_ok] at h ⊢
      cases x with
      | bl t =>
        cases t with
        | false => rfl
        | true =>
          simp only [ifB_true] at h ⊢
          cases e2 : b σ M1 with
          | bad => rfl
          | exn _ _ _ _ => rfl
          | ok f σ2 M2 =>
            rw [e2] at h
            cases f with
            | nx => exact whileN_up n σ2 M2 h
            | cnt => exact whileN_up n σ2 M2 h
            | brk => rfl
            | ret _ => rfl
      | _ => rfl
theorem whileN_eq {n : Nat} (h : whileN c b n σ M ≠ .bad) : ∀ k, whileN c b (n + k) σ M = whileN c b n σ M
  | 0 => rfl
  | k + 1 => by
    have ih := whileN_eq h k
    rw [← Nat.add_assoc, whileN_up (n + k) σ M (by rw [ih]; exact h), ih]
theorem whileR_of {n : Nat} (h : whileN c b n σ M ≠ .bad) : whileR c b σ M = whileN c b n σ M := by
  have hx : ∃ n, whileN c b n σ M ≠ .bad := ⟨n, h⟩
  unfold whileR
  rw [dif_pos hx]
  have h2 := Classical.choose_spec hx
  generalize Classical.choose hx = m at h2
  rcases Nat.le_total n m with l | l
  · obtain ⟨k, rfl⟩ := Nat.le.dest l
    exact whileN_eq h k
  · obtain ⟨k, rfl⟩ := Nat.le.dest l
    exact (whileN_eq h2 k).symm
theorem whileR_go {σ' : Sl} {M1 M' : Hh} {r : OutS} (h1 : c σ M = .ok (.bl true) M1) (h2 : b σ M1 = .ok .nx σ' M') (h3 : whileR c b σ' M' = r) (hr : r ≠ .bad) : whileR c b σ M = r := by
  have : ∃ n, whileN c b n σ' M' ≠ .bad := by
    unfold whileR at h3
    split at h3
    · assumption
    · exact absurd h3.symm hr
  obtain ⟨n, hn⟩ := this
  have e : whileN c b (n + 1) σ M = whileN c b n σ' M' := by
    rw [whileN, h1]
    simp only [Out.st_ok, ifB_true]
    rw [h2]
    rfl
  rw [whileR_of (n := n + 1) (by rw [e]; exact hn), e, ← whileR_of hn, h3]
theorem whileR_stop {M1 : Hh} (h1 : c σ M = .ok (.bl false) M1) : whileR c b σ M = .ok .nx σ M1 := by
  have e : whileN c b 1 σ M = .ok .nx σ M1 := by
    rw [whileN, h1]
    rfl
  rw [whileR_of (n := 1) (by rw [e]; intro z; cases z), e]
theorem forL_all {bind : D → Sl → Option Sl} {g : List (Nat × List D)} (I : List D → Sl → Hh → Prop) (hg : ∀ xs σ M, I xs σ M → guardOk g M)
    (step : ∀ x xs σ M, I (x :: xs) σ M → ∃ σ1 σ' M', bind x σ = some σ1 ∧ (b σ1 M = .ok .nx σ' M' ∨ b σ1 M = .ok .cnt σ' M') ∧ I xs σ' M') : ∀ (xs : List D) (σ : Sl) (M : Hh), I xs σ M → ∃ σ' M', forL bind b g xs σ M = .ok .nx σ' M' ∧ I [] σ' M'
  | [], σ, M, h => ⟨σ, M, by unfold forL; rw [if_pos (hg _ _ _ h)], h⟩
  | x :: xs, σ, M, h => by
    obtain ⟨σ1, σ', M', e1, e2, h'⟩ := step x xs σ M h
    obtain ⟨σ2, M2, e3, h2⟩ := forL_all I hg step xs σ' M' h'
    refine ⟨σ2, M2, ?_, h2⟩
    unfold forL
    rw [if_pos (hg _ _ _ h), e1]
    simp only
    rcases e2 with e2 | e2
    · rw [e2]; exact e3
    · rw [e2]; exact e3
end
end Fw
namespace Fw
open PySem PySem.Spec PyProof.Rows L2
def oexB (K : PySem.W.Frag) (C : Addr) : Bool := (match K.lookup C with
  | some ⟨.type "type", _, .cls cd, sl⟩ => (match cd.mro, sl.toList with
    | .ref C' :: bm, [_, _, _, _, some (.builtin n), _] => C' == C && n == "ValueError.__new__" && !cd.hasDel && cd.hasDict && PySem.HandSPX.refsVE bm
    | _, _ => false)
  | _ => false) && decide (PySem.W.findIn K (.ref C) "__setattr__" = some (some (.builtin "object.__setattr__"))) && decide (PySem.W.subIn K (.ref C) (.type "BaseException") = some true) && decide (PySem.W.typeIn K (.ref C) = some (.type "type")) && PySem.W.keepIn K (.ref C)
theorem oexB_ok {K : PySem.W.Frag} {C : Addr} (h : oexB K C = true) : OexC K C := by
  unfold oexB at h
  simp only [Bool.and_eq_true, decide_eq_true_eq] at h
  obtain ⟨⟨⟨⟨q, h2⟩, h3⟩, h4⟩, h5⟩ := h
  refine ⟨?_, h2, h3, h4, h5⟩
  split at q
  · rename_i dd cd sl ho
    split at q
    · rename_i C' bm k0 k1 k2 k3 n k5 hm hs
      simp only [Bool.and_eq_true, beq_iff_eq, Bool.not_eq_true'] at q
      obtain ⟨⟨⟨⟨rfl, rfl⟩, hdel⟩, hdi⟩, hr⟩ := q
      obtain ⟨nm, bs, mro, ns, qn, hd, sn, sub, ab, col, del⟩ := cd
      dsimp only at hm hdel hdi
      subst hm hdel hdi
      have hsl : sl = #[k0, k1, k2, k3, some (.builtin "ValueError.__new__"), k5] := by
        obtain ⟨l⟩ := sl
        simp only at hs
        rw [hs]
      subst hsl
      exact ⟨nm, qn, ns, bs, bm, sn, sub, ab, col, dd, k0, k1, k2, k3, k5, ho, hr⟩
    · cases q
  · cases q
def exB (K : PySem.W.Frag) (D : Addr) : Bool :=
  decide (PySem.W.findIn K (.ref D) "__getattribute__" = some (some (.builtin "BaseException.__getattribute__"))) && decide (PySem.W.findIn K (.ref D) "__getattr__" = some none) &&
  decide (PySem.W.subIn K (.ref D) (.type "BaseException") = some true) && PySem.W.hasDictIn K D && decide (PySem.W.findIn K (.ref D) "__class__" = some (some (.builtin "object.__class__"))) &&
  decide (PySem.W.specialIn K (.builtin "object.__class__") "__get__" = some (some (.builtin "getset_descriptor.__get__"))) && decide (PySem.W.takesIn K (.builtin "object.__class__") = some true) && decide (PySem.W.mroIn K D (.type "object") = some true)
theorem exB_ok {K : PySem.W.Frag} {D : Addr} (h : exB K D = true) : ExcC K D := by
  unfold exB at h
  simp only [Bool.and_eq_true, decide_eq_true_eq] at h
  obtain ⟨⟨⟨⟨⟨⟨⟨h1, h2⟩, h3⟩, h4⟩, h5⟩, h6⟩, h7⟩, h8⟩ := h
  exact ⟨h1, h2, h3, h4, h5, h6, h7, h8⟩
def kit1 (K : PySem.W.Frag) (a : Addr) : Bool :=
  (["NoneType", "bool", "int", "str", "tuple", "list", "dict"].all fun k => decide (PySem.W.kitOne K (.type k) (.ref a) = some false)) &&
  (["bool", "int", "str", "tuple", "list", "dict"].all fun k => decide (PySem.W.kitOne K (.ref a) (.type k) = some false)) &&
  decide (PySem.W.kitOne K (.ref a) (.type "ValueError") = some true) && exB K a && (PySem.W.clsIn K a).isSome && decide (PySem.W.findIn K (.ref a) "at" = some none)
def kit2 (K : PySem.W.Frag) (a b : Addr) (s : Bool) : Bool := decide (PySem.W.kitOne K (.ref a) (.ref b) = some s) && decide (PySem.W.exmOne K (.ref a) (.ref b) = some s)
def kitAll (K : PySem.W.Frag) (ca : Nat → Addr) (n : Nat) (sup : Nat → Nat → Bool) : Bool := (List.range n).all fun x => kit1 K (ca x) && (List.range n).all fun y => kit2 K (ca x) (ca y) (sup x y)
theorem kit_of {c : Ct} {P : Pg} {n : Nat} (h : kitAll c.K c.ca n P.sup = true) (ho : P.ok = fun x => decide (x < n)) (hkt : P.kt = c.kt) : KitOk c P P.ok := by
  unfold kitAll at h
  have h1 : ∀ x, P.ok x = true → kit1 c.K (c.ca x) = true := fun x hx => by
    rw [ho] at hx
    have := List.all_eq_true.mp h x (List.mem_range.mpr (of_decide_eq_true hx))
    exact (Bool.and_eq_true_iff.mp this).1
  have h2 : ∀ x y, P.ok x = true → P.ok y = true → kit2 c.K (c.ca x) (c.ca y) (P.sup x y) = true := fun x y hx hy => by
    rw [ho] at hx hy
    have := List.all_eq_true.mp h x (List.mem_range.mpr (of_decide_eq_true hx))
    exact List.all_eq_true.mp (Bool.and_eq_true_iff.mp this).2 y (List.mem_range.mpr (of_decide_eq_true hy))
  have h3 : ∀ x, P.ok x = true → _ := fun x hx => by
    have z := h1 x hx
    unfold kit1 at z
    simp only [Bool.and_eq_true, decide_eq_true_eq] at z
    exact z
  refine ⟨rfl, fun k hk x hx => ?_, fun x y hx hy => ?_, fun k hk x hx => ?_, fun x hx => ?_, fun x hx => ?_, fun x hx => ?_, fun x hx => ?_, fun x y hx hy => ?_, hkt⟩
  · exact of_decide_eq_true (List.all_eq_true.mp (h3 x hx).1.1.1.1.1 k hk)
  · exact of_decide_eq_true (Bool.and_eq_true_iff.mp (h2 x y hx hy)).1
  · exact of_decide_eq_true (List.all_eq_true.mp (h3 x hx).1.1.1.1.2 k hk)
  · exact (h3 x hx).1.1.1.2
  · exact exB_ok (h3 x hx).1.1.2
  · exact (h3 x hx).1.2
  · exact (h3 x hx).2
  · exact of_decide_eq_true (Bool.and_eq_true_iff.mp (h2 x y hx hy)).2
def plB (K : PySem.W.Frag) (a : Addr) : Bool := PySem.W.excIn K a He.veBase "ValueError.__new__" && PySem.W.keepIn K (.ref a) && decide (PySem.W.subIn K (.ref a) (.type "BaseException") = some true) && decide (PySem.W.typeIn K (.ref a) = some (.type "type"))
def owB (K : PySem.W.Frag) (a fI : Addr) : Bool := oexB K a && decide (PySem.W.findIn K (.ref a) "at" = some none) && decide (PySem.W.findIn K (.ref a) "__init__" = some (some (.ref fI))) && decide (PySem.W.typeIn K (.ref fI) = some (.type "function"))
theorem plB_ok {K : PySem.W.Frag} {a : Addr} (h : plB K a = true) : PySem.W.excIn K a He.veBase "ValueError.__new__" = true ∧ PySem.W.keepIn K (.ref a) = true ∧ PySem.W.subIn K (.ref a) (.type "BaseException") = some true ∧ PySem.W.typeIn K (.ref a) = some (.type "type") := by
  unfold plB at h
  simp only [Bool.and_eq_true, decide_eq_true_eq] at h
  exact ⟨h.1.1.1, h.1.1.2, h.1.2, h.2⟩
theorem owB_ok {c : Ct} {k : Nat} {df : Nat → Bool} {P : Program} {w : World} {mg : Str → Option Value} {base : Heap} {fI : Addr} {fd : FuncData} (h : owB c.K (c.ca k) fI = true) (F : FnOk P w c.K mg base (L2.CX P w) 1 fI fd ["self", "at"] (spInit c.K)) (FH : L2H.FnH P w c.K mg base (L2.CX P w) 1 fI fd ["self", "at"] (spInit c.K)) (b1 : Binds c.K fd ["self", "at"] []) (b2 : df k = true → Binds c.K fd ["self", "at"] [.none]) :
    OexC c.K (c.ca k) ∧ PySem.W.findIn c.K (.ref (c.ca k)) "at" = some none ∧ ∃ (fI : Addr) (fd : FuncData), PySem.W.findIn c.K (.ref (c.ca k)) "__init__" = some (some (.ref fI)) ∧ PySem.W.typeIn c.K (.ref fI) = some (.type "function") ∧
    FnOk P w c.K mg base (L2.CX P w) 1 fI fd ["self", "at"] (spInit c.K) ∧ L2H.FnH P w c.K mg base (L2.CX P w) 1 fI fd ["self", "at"] (spInit c.K) ∧ Binds c.K fd ["self", "at"] [] ∧ (df k = true → Binds c.K fd ["self", "at"] [.none]) := by
  unfold owB at h
  simp only [Bool.and_eq_true, decide_eq_true_eq] at h
  exact ⟨oexB_ok h.1.1.1, h.1.1.2, fI, fd, h.1.2, h.2, F, FH, b1, b2⟩
def plAll (K : PySem.W.Frag) (ca : Nat → Addr) (l : List (Option Bool)) : Bool := (List.range l.length).all fun k => !(decide (l.getD k none = some false)) || plB K (ca k)
theorem getD_lt {α : Type} {l : List (Option α)} {k : Nat} {a : α} (h : l.getD k none = some a) : k < l.length := by
  by_cases hk : k < l.length
  · exact hk
  · rw [List.getD_eq_getElem?_getD, List.getElem?_eq_none (by omega)] at h
    cases h
theorem plAll_ok {K : PySem.W.Frag} {ca : Nat → Addr} {l : List (Option Bool)} (h : plAll K ca l = true) (k : Nat) (e : l.getD k none = some false) : plB K (ca k) = true := by
  have z := List.all_eq_true.mp h k (List.mem_range.mpr (getD_lt e))
  rw [decide_eq_true e] at z
  simpa using z
theorem vals_nil {us : List Value} (h : Vals [] us) : us = [] := by cases h; rfl
theorem vals_non {us : List Value} (h : Vals [.non] us) : us = [.none] := by
  cases h with
  | cons r t =>
    cases t
    rw [show _ = Value.none from r]
def clsB : Stmt → List Stmt
  | .ClassDef (body := b) .. => b
  | _ => []
def methAt (s : Stmt) (i : Nat) : Stmt := (clsB s).getD i (.Pass ⟨0, 0, 0, 0⟩)
mutual
def datB (K : PySem.W.Frag) : D → Value → Bool
  | .non, u => decide (u = .none)
  | .bl b, u => decide (u = .bool b)
  | .int i, u => (match u with | .int j _ => decide (i = j) | _ => false)
  | .str l, u => (match u with | .str y _ => decide (y = ⟨l.toArray⟩) && decide (l.length ≤ 1000) && l.all (fun x => decide (x < 1114112)) | _ => false)
  | .tup xs, u => (match u with
    | .ref a => (match K.lookup a with
      | some o => decide (o.cls = .type "tuple") && (match o.data with | .seq its _ => decide (its.size ≤ 1000 ∧ its.size ≠ 2) && datL K xs its.toList | _ => false)
      | none => false)
    | _ => false)
  | .lst xs, u => (match u with
    | .ref a => (match K.lookup a with
      | some o => decide (o.cls = .type "list") && decide (o.dict = none) && (match o.data with | .seq its _ => decide (its.size ≤ 1000) && datL K xs its.toList | _ => false)
      | none => false)
    | _ => false)
  | _, _ => false
def datL (K : PySem.W.Frag) : List D → List Value → Bool
  | [], us => us.isEmpty
  | x :: xs, us => (match us with | u :: us => datB K x u && datL K xs us | [] => false)
end
theorem lookup_mem {α β : Type} [BEq α] [LawfulBEq α] {l : List (α × β)} {a : α} {b : β} (h : l.lookup a = some b) : (a, b) ∈ l := by
  induction l with
  | nil => cases h
  | cons p l ih =>
    rw [List.lookup_cons] at h
    split at h
    · rename_i e
      cases h
      have : a = p.1 := by simpa using e
      subst this
      exact List.mem_cons_self
    · exact List.mem_cons_of_mem _ (ih h)
theorem line1000 {n : Nat} (h : n ≤ 1000) : n ≤ sizeLine := by rw [sizeLine_eq]; omega
section
variable {c : Ct}
mutual
theorem datB_ok (hk : c.kt = true) : ∀ (d : D) (u : Value), datB c.K d u = true → ∃ v, RelV v u ∧ noRef d = true ∧ ∀ w H, Rep c w H d v
  | .non, u, h => by
    simp only [datB, decide_eq_true_eq] at h
    exact ⟨.non, h, rfl, fun w H => rep_non.mpr rfl⟩
  | .bl b, u, h => by
    simp only [datB, decide_eq_true_eq] at h
    exact ⟨.bl b, h, rfl, fun w H => rep_bl.mpr rfl⟩
  | .int i, u, h => by
    simp only [datB] at h
    split at h
    · rw [decide_eq_true_eq] at h
      subst h
      exact ⟨.int i, ⟨_, rfl⟩, rfl, fun w H => rep_int.mpr rfl⟩
    · cases h
  | .str l, u, h => by
    simp only [datB] at h
    split at h
    · simp only [Bool.and_eq_true, decide_eq_true_eq, List.all_eq_true] at h
      obtain ⟨⟨rfl, h2⟩, h3⟩ := h
      exact ⟨.str _, ⟨_, rfl⟩, rfl, fun w H => rep_str.mpr ⟨rfl, line1000 h2, h3⟩⟩
    · cases h
  | .tup xs, u, h => by
    simp only [datB] at h
    split at h
    · rename_i a
      split at h
      · rename_i o ho
        rw [Bool.and_eq_true, decide_eq_true_eq] at h
        obtain ⟨h1, h2⟩ := h
        split at h2
        · rename_i its n hd
          rw [Bool.and_eq_true, decide_eq_true_eq] at h2
          obtain ⟨vs, r1, nr, r2⟩ := datL_ok hk xs _ h2.2
          have len : xs.length = its.size := by
            have e1 := (r2 ⟨fun _ => False, []⟩ (fun _ => none)).len
            have e2 := Paired.length r1
            rw [e1, e2, Array.length_toList]
          exact ⟨.ref a, rfl, nr, fun w H => rep_tup.mpr ⟨a, vs, rfl, .inr ⟨hk, ⟨o, its, n, ho, h1, hd, line1000 h2.1.1, r1⟩, by have e2 := Paired.length r1; rw [e2, Array.length_toList]; exact h2.1.2⟩, by rw [len]; exact line1000 h2.1.1, r2 w H⟩⟩
        · cases h2
      · cases h
    · cases h
  | .lst xs, u, h => by
    simp only [datB] at h
    split at h
    · rename_i a
      split at h
      · rename_i o ho
        simp only [Bool.and_eq_true, decide_eq_true_eq] at h
        obtain ⟨⟨h1, h0⟩, h2⟩ := h
        split at h2
        · rename_i its n hd
          rw [Bool.and_eq_true, decide_eq_true_eq] at h2
          obtain ⟨vs, r1, nr, r2⟩ := datL_ok hk xs _ h2.2
          have len : xs.length = its.size := by
            have e1 := (r2 ⟨fun _ => False, []⟩ (fun _ => none)).len
            have e2 := Paired.length r1
            rw [e1, e2, Array.length_toList]
          exact ⟨.ref a, rfl, nr, fun w H => rep_lst.mpr ⟨a, vs, rfl, .inr ⟨o, its, n, ho, h1, h0, hd, line1000 h2.1, r1⟩, by rw [len]; exact line1000 h2.1, r2 w H⟩⟩
        · cases h2
      · cases h
    · cases h
  | .ref _, u, h => by simp [datB] at h
  | .exc _ _, u, h => by simp [datB] at h
  | .dic _ _, u, h => by simp [datB] at h
  | .cls _, u, h => by simp [datB] at h
theorem datL_ok (hk : c.kt = true) : ∀ (ds : List D) (us : List Value), datL c.K ds us = true → ∃ vs, Vals vs us ∧ noRefL ds = true ∧ ∀ w H, RepL c w H ds vs
  | [], us, h => by
    simp only [datL, List.isEmpty_iff] at h
    subst h
    exact ⟨[], .nil, rfl, fun w H => RepL.nil⟩
  | d :: ds, us, h => by
    simp only [datL] at h
    split at h
    · rename_i u us
      rw [Bool.and_eq_true] at h
      obtain ⟨v, r1, n1, r2⟩ := datB_ok hk d u h.1
      obtain ⟨vs, q1, n2, q2⟩ := datL_ok hk ds us h.2
      exact ⟨v :: vs, .cons r1 q1, by simp only [noRefL, n1, n2, Bool.and_self], fun w H => RepL.cons (r2 w H) (q2 w H)⟩
    · cases h
end
theorem datR_ok (hk : c.kt = true) {d : D} {a : Addr} (h : datB c.K d (.ref a) = true) : noRef d = true ∧ ∀ w H, Rep c w H d (.ref a) := by
  obtain ⟨v, r, n, k⟩ := datB_ok hk d _ h
  have e : v = .ref a := by
    have := r.abs
    simpa [absV] using this.symm
  subst e
  exact ⟨n, k⟩
end
end Fw
namespace LawK25
open PySem PySem.Spec PyProof.Rows L2 Fw
def top (i : Nat) : Stmt := PySem.Challenge.pw_chalkline_k25_no_plan.main.body.getD i (.Pass ⟨0, 0, 0, 0⟩)
def N0 : List Str := ["self", "at"]
def F0 : Fn := ⟨2, 2, [
  .asg (.fld (.var 0) 0) (.var 1)]⟩
def N1 : List Str := ["self", "at"]
def F1 : Fn := ⟨2, 2, [
  .asg (.fld (.var 0) 0) (.var 1)]⟩
def N2 : List Str := ["plan", "word", "one", "other"]
def F2 : Fn := ⟨1, 4, [
  .ret (.bm false .join (.lit (.str [59, 32])) [(.comp false [1, 2, 3] .seq [(.var 0)] none (.bm false .join (.lit (.str [32])) [(.lst false [(.var 1), (.bi false .str [(.var 2)]), (.bi false .str [(.var 3)])])]))])]⟩
def N3 : List Str := ["word", "sign"]
def F3 : Fn := ⟨1, 2, [
  .ite (.or (.cmp .eq (.var 0) (.lit (.str []))) (.and (.cmp .eq (.idx (.var 0) (.lit (.int (0)))) (.lit (.str [48]))) (.cmp .gt (.bi false .len [(.var 0)]) (.lit (.int (1)))))) [
    .raise 4 []] [],
  .loop [1] .seq [(.var 0)] [
    .ite (.cmp .notin (.var 1) (.glo 0)) [
      .raise 4 []] []],
  .ret (.bi false .int [(.var 0)])]⟩
def N4 : List Str := ["text", "words"]
def F4 : Fn := ⟨1, 2, [
  .asg (.name 1) (.bm false .split (.var 0) [(.lit (.str [32]))]),
  .ite (.or (.cmp .ne (.bi false .len [(.var 1)]) (.lit (.int (3)))) (.cmp .notin (.idx (.var 1) (.lit (.int (0)))) (.tup [(.lit (.str [108, 105, 110, 101])), (.lit (.str [112, 101, 103]))]))) [
    .raise 4 []] [],
  .ret (.tup [(.idx (.var 1) (.lit (.int (0)))), (.call true 3 [(.idx (.var 1) (.lit (.int (1))))]), (.call true 3 [(.idx (.var 1) (.lit (.int (2))))])])]⟩
def N5 : List Str := ["text", "row"]
def F5 : Fn := ⟨1, 2, [
  .ite (.not (.isi (.var 0) [.str])) [
    .raise 4 []] [],
  .ite (.cmp .eq (.var 0) (.lit (.str []))) [
    .ret (.lst false [])] [],
  .retX false [1] .seq [(.bm false .split (.var 0) [(.lit (.str [59, 32]))])] (.call true 4 [(.var 1)])]⟩
def N6 : List Str := ["_law_script", "_law_k"]
def F6 : Fn := ⟨2, 2, [
  .ite (.cmp .lt (.var 1) (.bi false .len [(.var 0)])) [
    .ret (.idx (.var 0) (.var 1))] [],
  .ret (.lit (.int (0)))]⟩
def N7 : List Str := ["_law_cell_here", "_law_k", "_law_many", "_law_found", "_law_rest", "_law_number_here", "_law_j"]
def F7 : Fn := ⟨3, 7, [
  .asg (.name 3) (.lst true []),
  .asg (.name 4) (.bin false .mul (.bi false .abs [(.var 0)]) (.bi false .int [(.cmp .ge (.bi false .abs [(.var 0)]) (.bin false .pow (.lit (.int (10))) (.lit (.int (18)))))])),
  .whl (.and (.cmp .gt (.var 4) (.lit (.int (0)))) (.cmp .lt (.bi false .len [(.var 3)]) (.var 2))) [
    .expr (.bm false .append (.var 3) [(.bin false .mod (.var 4) (.bin false .pow (.lit (.int (10))) (.lit (.int (6)))))]),
    .asg (.name 4) (.bin false .fdiv (.var 4) (.bin false .pow (.lit (.int (10))) (.lit (.int (6)))))],
  .asg (.name 5) (.bin false .add (.bin false .add (.bin false .mod (.var 0) (.lit (.int (2305843009213693951)))) (.bin false .mul (.var 1) (.var 1))) (.lit (.int (7)))),
  .loop [6] .rng2 [(.bi false .len [(.var 3)]), (.var 2)] [
    .asg (.name 5) (.bin false .mod (.bin false .add (.bin false .add (.bin false .mul (.var 5) (.lit (.int (1181783497276652981)))) (.bin false .mul (.var 6) (.var 6))) (.var 1)) (.lit (.int (2305843009213693951)))),
    .expr (.bm false .append (.var 3) [(.bin false .mod (.bin false .fdiv (.bin false .mod (.bin false .mul (.var 5) (.var 5)) (.lit (.int (2305843009213693921)))) (.lit (.int (1048576)))) (.bin false .pow (.lit (.int (10))) (.lit (.int (6)))))])],
  .ret (.var 3)]⟩
def N8 : List Str := ["_law_d"]
def F8 : Fn := ⟨1, 1, [
  .ret (.idx (.lst false [(.bin false .mod (.idx (.var 0) (.lit (.int (0)))) (.lit (.int (12)))), (.idx (.var 0) (.lit (.int (0)))), (.bin false .add (.bin false .add (.bin false .mul (.idx (.var 0) (.lit (.int (0)))) (.bin false .pow (.lit (.int (10))) (.lit (.int (54))))) (.bin false .mul (.idx (.var 0) (.lit (.int (1)))) (.bin false .pow (.lit (.int (10))) (.lit (.int (30)))))) (.lit (.int (7))))]) (.bin false .mod (.idx (.var 0) (.lit (.int (2)))) (.lit (.int (3)))))]⟩
def N9 : List Str := ["_law_cells", "_law_plan", "_law_k", "_law_d"]
def F9 : Fn := ⟨1, 4, [
  .asg (.name 1) (.lst true []),
  .loop [2] .rng1 [(.bi false .len [(.var 0)])] [
    .asg (.name 3) (.call true 7 [(.idx (.var 0) (.var 2)), (.var 2), (.lit (.int (7)))]),
    .expr (.bm false .append (.var 1) [(.tup [(.idx (.lst false [(.lit (.str [108, 105, 110, 101])), (.lit (.str [112, 101, 103]))]) (.bin false .mod (.idx (.var 3) (.lit (.int (0)))) (.lit (.int (2))))), (.call true 8 [(.sl false (.var 3) (.lit (.int (1))) (.lit (.int (4))))]), (.call true 8 [(.sl false (.var 3) (.lit (.int (4))) (.lit (.int (7))))])])])],
  .ret (.var 1)]⟩
def N10 : List Str := ["_law_row", "_law_d", "_law_sign", "_law_some", "_law_word", "_law_one", "_law_other"]
def F10 : Fn := ⟨2, 7, [
  .asg (.names true [4, 5, 6]) (.bm false .split (.var 0) [(.lit (.str [32]))]),
  .asg (.name 2) (.idx (.lit (.str [97, 98, 120, 76, 80, 46, 44, 59, 58, 43, 42, 45, 95, 47])) (.bin false .mod (.idx (.var 1) (.lit (.int (1)))) (.lit (.int (14))))),
  .asg (.name 3) (.lst false [(.lit (.str [])), (.lit (.str [32])), (.var 4), (.bin false .add (.bin false .add (.var 4) (.lit (.str [32]))) (.var 5)), (.bin false .add (.var 0) (.lit (.str [32, 48]))), (.bin false .add (.bin false .add (.bin false .add (.lit (.str [108, 105, 110, 101, 115, 32])) (.var 5)) (.lit (.str [32]))) (.var 6)), (.bin false .add (.bin false .add (.bin false .add (.lit (.str [76, 105, 110, 101, 32])) (.var 5)) (.lit (.str [32]))) (.var 6))]),
  .asg (.name 3) (.bin false .add (.var 3) (.lst false [(.bin false .add (.bin false .add (.bin false .add (.bin false .add (.var 4) (.lit (.str [32, 48]))) (.var 5)) (.lit (.str [32]))) (.var 6)), (.bin false .add (.bin false .add (.bin false .add (.bin false .add (.var 4) (.lit (.str [32]))) (.var 5)) (.lit (.str [32, 48]))) (.var 6)), (.bin false .add (.bin false .add (.bin false .add (.bin false .add (.var 4) (.lit (.str [32, 45]))) (.var 5)) (.lit (.str [32]))) (.var 6))])),
  .asg (.name 3) (.bin false .add (.var 3) (.lst false [(.bin false .add (.bin false .add (.bin false .add (.bin false .add (.var 4) (.lit (.str [32]))) (.var 5)) (.lit (.str [32, 32]))) (.var 6)), (.bin false .add (.lit (.str [32])) (.var 0)), (.bin false .add (.var 0) (.lit (.str [32]))), (.bin false .add (.var 0) (.lit (.str [59]))), (.bin false .add (.bin false .add (.var 0) (.lit (.str [59]))) (.var 0)), (.bin false .add (.var 0) (.lit (.str [59, 32])))])),
  .asg (.name 3) (.bin false .add (.var 3) (.lst false [(.bin false .add (.bin false .add (.bin false .add (.bin false .add (.bin false .add (.var 4) (.lit (.str [32]))) (.var 5)) (.var 2)) (.lit (.str [32]))) (.var 6)), (.bin false .add (.var 2) (.var 0)), (.bin false .add (.var 0) (.var 2)), (.bin false .add (.bin false .add (.bin false .add (.bin false .add (.var 5) (.lit (.str [32]))) (.var 4)) (.lit (.str [32]))) (.var 6))])),
  .asg (.name 3) (.bin false .add (.var 3) (.lst false [(.bin false .add (.bin false .add (.bin false .add (.bin false .add (.var 4) (.lit (.str [32, 43]))) (.var 5)) (.lit (.str [32]))) (.var 6)), (.bin false .add (.var 0) (.lit (.str [10]))), (.bin false .add (.bin false .add (.bin false .add (.bin false .add (.var 4) (.lit (.str [9]))) (.var 5)) (.lit (.str [32]))) (.var 6))])),
  .asg (.name 3) (.bin false .add (.var 3) (.lst false [(.bin false .add (.bin false .add (.bin false .add (.lit (.str [108, 97, 110, 101, 32])) (.var 5)) (.lit (.str [32]))) (.var 6)), (.bin false .add (.bin false .add (.bin false .add (.lit (.str [112, 97, 103, 32])) (.var 5)) (.lit (.str [32]))) (.var 6)), (.bin false .add (.bin false .add (.bin false .add (.bin false .add (.sl false (.var 4) (.lit (.int (1))) (.lit .non)) (.lit (.str [32]))) (.var 5)) (.lit (.str [32]))) (.var 6))])),
  .ret (.idx (.bin false .add (.var 3) (.lst false [(.bin false .add (.lit (.str [59, 32])) (.var 0)), (.bin false .add (.bin false .add (.bin false .add (.bin false .add (.var 4) (.lit (.str [32]))) (.var 5)) (.lit (.str [95, 48, 32]))) (.var 6))])) (.bin false .mod (.idx (.var 1) (.lit (.int (0)))) (.lit (.int (28)))))]⟩
def N11 : List Str := ["_law_thing", "_law_told", "e"]
def F11 : Fn := ⟨1, 3, [
  .asg (.name 1) (.lit .non),
  .try_ [
    .expr (.call false 5 [(.var 0)])] 0 (some 2) [
    .asg (.name 1) (.var 2)],
  .ite (.or (.not (.isi (.var 1) [.cls 4])) (.not (.isi (.var 1) [.valErr]))) [
    .ret (.lit (.bl false))] [],
  .ite (.isi (.var 1) [.cls 1, .cls 14, .cls 2, .cls 3, .cls 15, .cls 5, .cls 6]) [
    .ret (.lit (.bl false))] [],
  .ret (.not (.isi (.var 1) [.cls 7, .cls 8, .cls 9, .cls 10, .cls 11, .cls 12, .cls 13]))]⟩
def N12 : List Str := ["_law_script", "_law_plan", "_law_rows", "_law_cell_here", "_law_d", "_law_at", "_law_bad_here"]
def F12 : Fn := ⟨1, 7, [
  .asg (.name 1) (.call true 9 [(.bin false .add (.sl false (.var 0) (.lit .non) (.lit (.int (10)))) (.bin false .mul (.lst true [(.lit (.int (3)))]) (.bi false .int [(.cmp .eq (.var 0) (.lst false []))])))]),
  .asg (.name 2) (.bm false .split (.call true 2 [(.var 1)]) [(.lit (.str [59, 32]))]),
  .loop [3] .seq [(.bin false .add (.sl false (.var 0) (.lit (.int (10))) (.lit (.int (60)))) (.lst false [(.bi false .len [(.var 0)]), (.bin false .add (.bi false .len [(.var 0)]) (.lit (.int (1))))]))] [
    .asg (.name 4) (.call true 7 [(.var 3), (.lit (.int (50))), (.lit (.int (4)))]),
    .asg (.name 5) (.bin false .mod (.idx (.var 4) (.lit (.int (2)))) (.bi false .len [(.var 2)])),
    .asg (.name 6) (.call true 10 [(.idx (.var 2) (.var 5)), (.var 4)]),
    .ite (.and (.cmp .eq (.bi false .len [(.var 2)]) (.lit (.int (1)))) (.cmp .eq (.var 6) (.lit (.str [])))) [
      .asg (.name 6) (.lit (.str [114, 111, 119]))] [],
    .ite (.not (.call true 11 [(.bm false .join (.lit (.str [59, 32])) [(.bin false .add (.bin false .add (.sl false (.var 2) (.lit .non) (.var 5)) (.lst false [(.var 6)])) (.sl false (.var 2) (.bin false .add (.var 5) (.lit (.int (1)))) (.lit .non)))])])) [
      .ret (.lit (.bl false))] [],
    .ite (.not (.call false 11 [(.idx (.lst false [(.lit .non), (.lit (.int (5))), (.lit (.bl true)), (.var 1), (.tup [(.lit (.str [108, 105, 110, 101, 32, 48, 32, 49]))]), (.dict .one [] [])]) (.bin false .mod (.idx (.var 4) (.lit (.int (3)))) (.lit (.int (6)))))])) [
      .ret (.lit (.bl false))] []],
  .ret (.cmp .eq (.call true 5 [(.bm false .join (.lit (.str [59, 32])) [(.var 2)])]) (.var 1))]⟩
def T : List Fn := [F0, F1, F2, F3, F4, F5, F6, F7, F8, F9, F10, F11, F12]
def supL : List (List Nat) := [[0], [0, 1], [0, 2], [0, 3], [0, 4], [0, 5], [0, 6], [0, 7], [0, 8], [0, 9], [0, 10], [0, 11], [0, 12], [0, 13], [0, 14], [0, 15]]
def rkL : List (Option Bool) := [some false, some false, some false, some false, some false, some false, some false, some false, some false, some false, some false, some false, some false, some false, some true, some true]
def anL : List Str := ["at"]
def mnL : List Str := []
def iniT : List (Nat × Nat) := []
def mthT : List ((Nat × Nat) × Nat) := []
def P : Pg := ⟨[(.str [48, 49, 50, 51, 52, 53, 54, 55, 56, 57])], fun x => decide (x < 16), fun x y => (supL.getD x []).contains y, fun _ => none, fun _ _ => none, false⟩
def tb : Tb := ⟨P, T, [("FIGURES", 0)], [("shown", 2), ("number_in", 3), ("deed_in", 4), ("read", 5), ("_law_cell", 6), ("_law_digits", 7), ("_law_number", 8), ("_law_deeds", 9), ("_law_bad", 10), ("_law_refused", 11), ("law", 12)], [("ChalkError", 0), ("NoPlace", 1), ("NoFloor", 2), ("Endless", 3), ("NoText", 4), ("NoName", 5), ("TooMany", 6), ("NoChange", 7), ("NoFrame", 8), ("NoValue", 9), ("Unlike", 10), ("NoRatio", 11), ("NoBow", 12), ("NoRow", 13), ("Same", 14), ("NoDeed", 15)], ["ValueError", "abs", "int", "isinstance", "len", "range", "str"], fun k => rkL.getD k none, fun k => [14].contains k, [], anL, mnL, []⟩
theorem chk2 : chkFn tb N2 F2 (defScope (top 19)) (defBody (top 19)) = true := by decide +kernel
theorem chk3 : chkFn tb N3 F3 (defScope (top 20)) (defBody (top 20)) = true := by decide +kernel
theorem chk4 : chkFn tb N4 F4 (defScope (top 21)) (defBody (top 21)) = true := by decide +kernel
theorem chk5 : chkFn tb N5 F5 (defScope (top 22)) (defBody (top 22)) = true := by decide +kernel
theorem chk6 : chkFn tb N6 F6 (defScope (top 24)) (defBody (top 24)) = true := by decide +kernel
theorem chk7 : chkFn tb N7 F7 (defScope (top 25)) (defBody (top 25)) = true := by decide +kernel
theorem chk8 : chkFn tb N8 F8 (defScope (top 26)) (defBody (top 26)) = true := by decide +kernel
theorem chk9 : chkFn tb N9 F9 (defScope (top 27)) (defBody (top 27)) = true := by decide +kernel
theorem chk10 : chkFn tb N10 F10 (defScope (top 28)) (defBody (top 28)) = true := by decide +kernel
theorem chk11 : chkFn tb N11 F11 (defScope (top 29)) (defBody (top 29)) = true := by decide +kernel
theorem chk12 : chkFn tb N12 F12 (defScope (top 30)) (defBody (top 30)) = true := by decide +kernel
def d0 : He.DefD := ⟨("Same", some "__init__"), "__init__", "Same.__init__", defArgs (methAt (top 15) 0), defBody (methAt (top 15) 0), defScope (methAt (top 15) 0), [.non], []⟩
def d1 : He.DefD := ⟨("NoDeed", some "__init__"), "__init__", "NoDeed.__init__", defArgs (methAt (top 16) 0), defBody (methAt (top 16) 0), defScope (methAt (top 16) 0), [], []⟩
def d2 : He.DefD := ⟨("shown", none), "shown", "shown", defArgs (top 19), defBody (top 19), defScope (top 19), [], []⟩
def d3 : He.DefD := ⟨("number_in", none), "number_in", "number_in", defArgs (top 20), defBody (top 20), defScope (top 20), [], []⟩
def d4 : He.DefD := ⟨("deed_in", none), "deed_in", "deed_in", defArgs (top 21), defBody (top 21), defScope (top 21), [], []⟩
def d5 : He.DefD := ⟨("read", none), "read", "read", defArgs (top 22), defBody (top 22), defScope (top 22), [], []⟩
def d6 : He.DefD := ⟨("_law_cell", none), "_law_cell", "_law_cell", defArgs (top 24), defBody (top 24), defScope (top 24), [], []⟩
def d7 : He.DefD := ⟨("_law_digits", none), "_law_digits", "_law_digits", defArgs (top 25), defBody (top 25), defScope (top 25), [], []⟩
def d8 : He.DefD := ⟨("_law_number", none), "_law_number", "_law_number", defArgs (top 26), defBody (top 26), defScope (top 26), [], []⟩
def d9 : He.DefD := ⟨("_law_deeds", none), "_law_deeds", "_law_deeds", defArgs (top 27), defBody (top 27), defScope (top 27), [], []⟩
def d10 : He.DefD := ⟨("_law_bad", none), "_law_bad", "_law_bad", defArgs (top 28), defBody (top 28), defScope (top 28), [], []⟩
def d11 : He.DefD := ⟨("_law_refused", none), "_law_refused", "_law_refused", defArgs (top 29), defBody (top 29), defScope (top 29), [], []⟩
def d12 : He.DefD := ⟨("law", none), "law", "law", defArgs (top 30), defBody (top 30), defScope (top 30), [], []⟩
def fn : List He.DefD := [d0, d1, d2, d3, d4, d5, d6, d7, d8, d9, d10, d11, d12]
def faN0 : List He.Fa := [.glo "shown", .glo "number_in", .glo "deed_in", .glo "read", .glo "_law_cell", .glo "_law_digits", .glo "_law_number", .glo "_law_deeds", .glo "_law_bad", .glo "_law_refused", .glo "law", .glo "ChalkError", .glo "NoPlace", .glo "NoFloor", .glo "Endless", .glo "NoText", .glo "NoName", .glo "TooMany", .glo "NoChange", .glo "NoFrame", .glo "NoValue", .glo "Unlike", .glo "NoRatio", .glo "NoBow"]
def faN1 : List He.Fa := [.glo "NoRow", .glo "Same", .glo "NoDeed", .free "ValueError", .free "abs", .free "int", .free "isinstance", .free "len", .free "range", .free "str", .str "FIGURES" "0123456789"]
def fa : List He.Fa := faN0 ++ faN1
def ca (K : PySem.W.Frag) : Nat → Addr
  | 0 => He.ga K "ChalkError"
  | 1 => He.ga K "NoPlace"
  | 2 => He.ga K "NoFloor"
  | 3 => He.ga K "Endless"
  | 4 => He.ga K "NoText"
  | 5 => He.ga K "NoName"
  | 6 => He.ga K "TooMany"
  | 7 => He.ga K "NoChange"
  | 8 => He.ga K "NoFrame"
  | 9 => He.ga K "NoValue"
  | 10 => He.ga K "Unlike"
  | 11 => He.ga K "NoRatio"
  | 12 => He.ga K "NoBow"
  | 13 => He.ga K "NoRow"
  | 14 => He.ga K "Same"
  | 15 => He.ga K "NoDeed"
  | _ => 0
def exC (K : PySem.W.Frag) : Bool := kitAll K (ca K) 16 (fun x y => (supL.getD x []).contains y) && (plAll K (ca K) rkL && owB K (ca K 14) (He.fAd K ("Same", some "__init__")) && owB K (ca K 15) (He.fAd K ("NoDeed", some "__init__")))
def exD (K : PySem.W.Frag) : Bool := true
def ex (K : PySem.W.Frag) : Bool := exC K && exD K
abbrev R : PySem.W.OpenRow := PySem.W.OpenLaw.row PySem.Challenge.rw_chalkline_k25_no_plan
abbrev hk : PySem.W.Hook := He.hookX 4 fa fn [] [] ex
def ob (s : PySem.W.SharedT) : He.AlX := He.obsX 4 fa fn [] [] ex (HandSHeadRun.getT s)
theorem ob_eq (s : PySem.W.SharedT) : ob s = hk.obs s.abs := He.obsX_eq (HandSHeadRun.getT_eq s)
def loose0 : List Str := ["ChalkError", "NoPlace", "NoFloor", "Endless", "NoText", "NoName", "TooMany", "NoChange", "NoFrame", "NoValue", "Unlike", "NoRatio", "NoBow", "NoRow", "Same", "NoDeed", "FIGURES", "shown", "number_in", "deed_in", "read", "_law_cell", "_law_digits", "_law_number"]
def loose1 : List Str := ["_law_deeds", "_law_bad", "_law_refused"]
def loose : List Str := loose0 ++ loose1
theorem headRun (w : World) : HandSHeadRun.RunEq R (PySem.W.view R.prog [30]) hk ob 30000 loose w := by
  intro os
  kernel_rfl
section
variable {K : PySem.W.Frag} {h : Heap} {mg : Str → Option Value} {w : World}
def ct (K : PySem.W.Frag) : Ct := ⟨K, ca K, fun k => anL.getD k "at", P.gl, fun k => ([.str "0123456789"] : List V).getD k .non, false, anL.length⟩
theorem own14 (c : He.SaysD fa fn K) (e : owB K (ca K 14) (He.fAd K ("Same", some "__init__")) = true) (base : Heap) (w : World) (mg : Str → Option Value) : OexC K (ca K 14) ∧ PySem.W.findIn K (.ref (ca K 14)) "at" = some none ∧ ∃ (fI : Addr) (fd : FuncData), PySem.W.findIn K (.ref (ca K 14)) "__init__" = some (some (.ref fI)) ∧ PySem.W.typeIn K (.ref fI) = some (.type "function") ∧
    FnOk PySem.Challenge.pw_chalkline_k25_no_plan w K mg base (L2.CX PySem.Challenge.pw_chalkline_k25_no_plan w) 1 fI fd ["self", "at"] (spInit K) ∧ L2H.FnH PySem.Challenge.pw_chalkline_k25_no_plan w K mg base (L2.CX PySem.Challenge.pw_chalkline_k25_no_plan w) 1 fI fd ["self", "at"] (spInit K) ∧ Binds K fd ["self", "at"] [] ∧ (tb.df 14 = true → Binds K fd ["self", "at"] [.none]) := by
  obtain ⟨fd, F⟩ := c.def_ 0 (d := d0) rfl
  obtain ⟨ds, v1, b1⟩ := FunD.binds1 (ps := ["self", "at"]) F 2 1 (List.cons_ne_nil _ _) rfl fun T kV doc pm an cdv ct us its h1 h2 => match us, its, h1, h2 with | [_, _], [_], _, _ => ⟨_, rfl, rfl⟩
  obtain ⟨ds2, v2, b2⟩ := FunD.binds1 (ps := ["self", "at"]) F 1 0 (List.cons_ne_nil _ _) rfl fun T kV doc pm an cdv ct us its h1 h2 => match us, its, h1, h2 with | [_], [_], _, _ => ⟨_, rfl, rfl⟩
  rw [vals_nil v1] at b1
  rw [vals_non v2] at b2
  exact owB_ok (c := ct K) (k := 14) (df := tb.df) e (init_ok F (scB_ok (by decide +kernel)) (by decide +kernel)) (init_okH F (scB_ok (by decide +kernel)) (by decide +kernel)) b1 (fun _ => b2)
theorem own15 (c : He.SaysD fa fn K) (e : owB K (ca K 15) (He.fAd K ("NoDeed", some "__init__")) = true) (base : Heap) (w : World) (mg : Str → Option Value) : OexC K (ca K 15) ∧ PySem.W.findIn K (.ref (ca K 15)) "at" = some none ∧ ∃ (fI : Addr) (fd : FuncData), PySem.W.findIn K (.ref (ca K 15)) "__init__" = some (some (.ref fI)) ∧ PySem.W.typeIn K (.ref fI) = some (.type "function") ∧
    FnOk PySem.Challenge.pw_chalkline_k25_no_plan w K mg base (L2.CX PySem.Challenge.pw_chalkline_k25_no_plan w) 1 fI fd ["self", "at"] (spInit K) ∧ L2H.FnH PySem.Challenge.pw_chalkline_k25_no_plan w K mg base (L2.CX PySem.Challenge.pw_chalkline_k25_no_plan w) 1 fI fd ["self", "at"] (spInit K) ∧ Binds K fd ["self", "at"] [] ∧ (tb.df 15 = true → Binds K fd ["self", "at"] [.none]) := by
  obtain ⟨fd, F⟩ := c.def_ 1 (d := d1) rfl
  have b1 : Binds K fd ["self", "at"] [] := FunD.bindsN (ps := ["self", "at"]) F fun _ _ _ _ _ _ us hl => match us, hl with | [_, _], _ => rfl
  exact owB_ok (c := ct K) (k := 15) (df := tb.df) e (init_ok F (scB_ok (by decide +kernel)) (by decide +kernel)) (init_okH F (scB_ok (by decide +kernel)) (by decide +kernel)) b1 (fun z => absurd z (by decide +kernel))
theorem obT (X : K.In h) (G : h.Ns mainGlobals mg) (c : He.SaysD fa fn K) : ObT (ct K) tb mg := by
  exact ob_none rfl rfl rfl rfl rfl rfl rfl
theorem topOk (X : K.In h) (G : h.Ns mainGlobals mg) (c : He.SaysD fa fn K) (m : ex K = true) : TopOk (ct K) tb PySem.Challenge.pw_chalkline_k25_no_plan w mg := by
  obtain ⟨m, _⟩ := Bool.and_eq_true_iff.mp m
  obtain ⟨m1, m2⟩ := Bool.and_eq_true_iff.mp m
  obtain ⟨m2, o1⟩ := Bool.and_eq_true_iff.mp m2
  obtain ⟨m2, o0⟩ := Bool.and_eq_true_iff.mp m2
  refine ⟨kit_of m1 rfl rfl, rfl, ?_, ?_, ?_, fun base => ⟨fun k e => plB_ok (plAll_ok m2 k e), fun k e => ?_⟩, obT X G c, fun x f e => nomatch e⟩
  · have z : ∀ p ∈ tb.gn, ∃ u, mg p.1 = some u ∧ RelV ((ct K).gv p.2) u := by
      refine List.forall_mem_cons.mpr ⟨?g0, List.forall_mem_nil _⟩
      case g0 => obtain ⟨t, e⟩ := He.str_ok X G (c.fact 34 (f := .str "FIGURES" "0123456789") rfl); exact ⟨_, e, t, rfl⟩
    exact fun x i e => z (x, i) (PySem.mem_of_lookup e)
  · have z : ∀ x ∈ tb.bi, mg x = none := by
      exact List.forall_mem_cons.mpr ⟨He.free_ok X G (c.fact 27 (f := .free "ValueError") rfl), List.forall_mem_cons.mpr ⟨He.free_ok X G (c.fact 28 (f := .free "abs") rfl), List.forall_mem_cons.mpr ⟨He.free_ok X G (c.fact 29 (f := .free "int") rfl), List.forall_mem_cons.mpr ⟨He.free_ok X G (c.fact 30 (f := .free "isinstance") rfl), List.forall_mem_cons.mpr ⟨He.free_ok X G (c.fact 31 (f := .free "len") rfl), List.forall_mem_cons.mpr ⟨He.free_ok X G (c.fact 32 (f := .free "range") rfl), List.forall_mem_cons.mpr ⟨He.free_ok X G (c.fact 33 (f := .free "str") rfl), List.forall_mem_nil _⟩⟩⟩⟩⟩⟩⟩
    exact fun x e => z x (List.contains_iff_mem.mp e)
  · have z : ∀ p ∈ tb.cn, mg p.1 = some (.ref ((ct K).ca p.2)) := by
      exact List.forall_mem_cons.mpr ⟨He.glo_ok X G (c.fact 11 (f := .glo "ChalkError") rfl), List.forall_mem_cons.mpr ⟨He.glo_ok X G (c.fact 12 (f := .glo "NoPlace") rfl), List.forall_mem_cons.mpr ⟨He.glo_ok X G (c.fact 13 (f := .glo "NoFloor") rfl), List.forall_mem_cons.mpr ⟨He.glo_ok X G (c.fact 14 (f := .glo "Endless") rfl), List.forall_mem_cons.mpr ⟨He.glo_ok X G (c.fact 15 (f := .glo "NoText") rfl), List.forall_mem_cons.mpr ⟨He.glo_ok X G (c.fact 16 (f := .glo "NoName") rfl), List.forall_mem_cons.mpr ⟨He.glo_ok X G (c.fact 17 (f := .glo "TooMany") rfl), List.forall_mem_cons.mpr ⟨He.glo_ok X G (c.fact 18 (f := .glo "NoChange") rfl), List.forall_mem_cons.mpr ⟨He.glo_ok X G (c.fact 19 (f := .glo "NoFrame") rfl), List.forall_mem_cons.mpr ⟨He.glo_ok X G (c.fact 20 (f := .glo "NoValue") rfl), List.forall_mem_cons.mpr ⟨He.glo_ok X G (c.fact 21 (f := .glo "Unlike") rfl), List.forall_mem_cons.mpr ⟨He.glo_ok X G (c.fact 22 (f := .glo "NoRatio") rfl), List.forall_mem_cons.mpr ⟨He.glo_ok X G (c.fact 23 (f := .glo "NoBow") rfl), List.forall_mem_cons.mpr ⟨He.glo_ok X G (c.fact 24 (f := .glo "NoRow") rfl), List.forall_mem_cons.mpr ⟨He.glo_ok X G (c.fact 25 (f := .glo "Same") rfl), List.forall_mem_cons.mpr ⟨He.glo_ok X G (c.fact 26 (f := .glo "NoDeed") rfl), List.forall_mem_nil _⟩⟩⟩⟩⟩⟩⟩⟩⟩⟩⟩⟩⟩⟩⟩⟩
    exact fun x i e => z (x, i) (PySem.mem_of_lookup e)
  · have z := (by decide +kernel : ∀ k < 16, rkL.getD k none = some true → k = 14 ∨ k = 15) k (getD_lt e) e
    rcases z with rfl | rfl
    · exact own14 c o0 base w mg
    · exact own15 c o1 base w mg
theorem at2 (X : K.In h) (G : h.Ns mainGlobals mg) (c : He.SaysD fa fn K) : FunAt (ct K) tb mg "shown" 2 := by
  obtain ⟨fd, F⟩ := c.def_ 2 (d := d2) rfl
  exact ⟨_, fd, F2, N2, _, _, _, _, _, _, _, He.glo_ok X G (c.fact 0 (f := .glo "shown") rfl), rfl, F, FunD.bindsA (ps := N2.take F2.par) F fun _ _ _ _ _ _ us hl => match us, hl with | [_], _ => rfl, chk2⟩
theorem at3 (X : K.In h) (G : h.Ns mainGlobals mg) (c : He.SaysD fa fn K) : FunAt (ct K) tb mg "number_in" 3 := by
  obtain ⟨fd, F⟩ := c.def_ 3 (d := d3) rfl
  exact ⟨_, fd, F3, N3, _, _, _, _, _, _, _, He.glo_ok X G (c.fact 1 (f := .glo "number_in") rfl), rfl, F, FunD.bindsA (ps := N3.take F3.par) F fun _ _ _ _ _ _ us hl => match us, hl with | [_], _ => rfl, chk3⟩
theorem at4 (X : K.In h) (G : h.Ns mainGlobals mg) (c : He.SaysD fa fn K) : FunAt (ct K) tb mg "deed_in" 4 := by
  obtain ⟨fd, F⟩ := c.def_ 4 (d := d4) rfl
  exact ⟨_, fd, F4, N4, _, _, _, _, _, _, _, He.glo_ok X G (c.fact 2 (f := .glo "deed_in") rfl), rfl, F, FunD.bindsA (ps := N4.take F4.par) F fun _ _ _ _ _ _ us hl => match us, hl with | [_], _ => rfl, chk4⟩
theorem at5 (X : K.In h) (G : h.Ns mainGlobals mg) (c : He.SaysD fa fn K) : FunAt (ct K) tb mg "read" 5 := by
  obtain ⟨fd, F⟩ := c.def_ 5 (d := d5) rfl
  exact ⟨_, fd, F5, N5, _, _, _, _, _, _, _, He.glo_ok X G (c.fact 3 (f := .glo "read") rfl), rfl, F, FunD.bindsA (ps := N5.take F5.par) F fun _ _ _ _ _ _ us hl => match us, hl with | [_], _ => rfl, chk5⟩
theorem at6 (X : K.In h) (G : h.Ns mainGlobals mg) (c : He.SaysD fa fn K) : FunAt (ct K) tb mg "_law_cell" 6 := by
  obtain ⟨fd, F⟩ := c.def_ 6 (d := d6) rfl
  exact ⟨_, fd, F6, N6, _, _, _, _, _, _, _, He.glo_ok X G (c.fact 4 (f := .glo "_law_cell") rfl), rfl, F, FunD.bindsA (ps := N6.take F6.par) F fun _ _ _ _ _ _ us hl => match us, hl with | [_, _], _ => rfl, chk6⟩
theorem at7 (X : K.In h) (G : h.Ns mainGlobals mg) (c : He.SaysD fa fn K) : FunAt (ct K) tb mg "_law_digits" 7 := by
  obtain ⟨fd, F⟩ := c.def_ 7 (d := d7) rfl
  exact ⟨_, fd, F7, N7, _, _, _, _, _, _, _, He.glo_ok X G (c.fact 5 (f := .glo "_law_digits") rfl), rfl, F, FunD.bindsA (ps := N7.take F7.par) F fun _ _ _ _ _ _ us hl => match us, hl with | [_, _, _], _ => rfl, chk7⟩
theorem at8 (X : K.In h) (G : h.Ns mainGlobals mg) (c : He.SaysD fa fn K) : FunAt (ct K) tb mg "_law_number" 8 := by
  obtain ⟨fd, F⟩ := c.def_ 8 (d := d8) rfl
  exact ⟨_, fd, F8, N8, _, _, _, _, _, _, _, He.glo_ok X G (c.fact 6 (f := .glo "_law_number") rfl), rfl, F, FunD.bindsA (ps := N8.take F8.par) F fun _ _ _ _ _ _ us hl => match us, hl with | [_], _ => rfl, chk8⟩
theorem at9 (X : K.In h) (G : h.Ns mainGlobals mg) (c : He.SaysD fa fn K) : FunAt (ct K) tb mg "_law_deeds" 9 := by
  obtain ⟨fd, F⟩ := c.def_ 9 (d := d9) rfl
  exact ⟨_, fd, F9, N9, _, _, _, _, _, _, _, He.glo_ok X G (c.fact 7 (f := .glo "_law_deeds") rfl), rfl, F, FunD.bindsA (ps := N9.take F9.par) F fun _ _ _ _ _ _ us hl => match us, hl with | [_], _ => rfl, chk9⟩
theorem at10 (X : K.In h) (G : h.Ns mainGlobals mg) (c : He.SaysD fa fn K) : FunAt (ct K) tb mg "_law_bad" 10 := by
  obtain ⟨fd, F⟩ := c.def_ 10 (d := d10) rfl
  exact ⟨_, fd, F10, N10, _, _, _, _, _, _, _, He.glo_ok X G (c.fact 8 (f := .glo "_law_bad") rfl), rfl, F, FunD.bindsA (ps := N10.take F10.par) F fun _ _ _ _ _ _ us hl => match us, hl with | [_, _], _ => rfl, chk10⟩
theorem at11 (X : K.In h) (G : h.Ns mainGlobals mg) (c : He.SaysD fa fn K) : FunAt (ct K) tb mg "_law_refused" 11 := by
  obtain ⟨fd, F⟩ := c.def_ 11 (d := d11) rfl
  exact ⟨_, fd, F11, N11, _, _, _, _, _, _, _, He.glo_ok X G (c.fact 9 (f := .glo "_law_refused") rfl), rfl, F, FunD.bindsA (ps := N11.take F11.par) F fun _ _ _ _ _ _ us hl => match us, hl with | [_], _ => rfl, chk11⟩
theorem at12 (X : K.In h) (G : h.Ns mainGlobals mg) (c : He.SaysD fa fn K) : FunAt (ct K) tb mg "law" 12 := by
  obtain ⟨fd, F⟩ := c.def_ 12 (d := d12) rfl
  exact ⟨_, fd, F12, N12, _, _, _, _, _, _, _, He.glo_ok X G (c.fact 10 (f := .glo "law") rfl), rfl, F, FunD.bindsA (ps := N12.take F12.par) F fun _ _ _ _ _ _ us hl => match us, hl with | [_], _ => rfl, chk12⟩
theorem funsAt (X : K.In h) (G : h.Ns mainGlobals mg) (c : He.SaysD fa fn K) : FunsAt (ct K) tb mg := by
  have z : ∀ p ∈ tb.fn, FunAt (ct K) tb mg p.1 p.2 := List.forall_mem_cons.mpr ⟨at2 X G c, List.forall_mem_cons.mpr ⟨at3 X G c, List.forall_mem_cons.mpr ⟨at4 X G c, List.forall_mem_cons.mpr ⟨at5 X G c, List.forall_mem_cons.mpr ⟨at6 X G c, List.forall_mem_cons.mpr ⟨at7 X G c, List.forall_mem_cons.mpr ⟨at8 X G c, List.forall_mem_cons.mpr ⟨at9 X G c, List.forall_mem_cons.mpr ⟨at10 X G c, List.forall_mem_cons.mpr ⟨at11 X G c, List.forall_mem_cons.mpr ⟨at12 X G c, List.forall_mem_nil _⟩⟩⟩⟩⟩⟩⟩⟩⟩⟩⟩
  exact fun x f e => z (x, f) e
theorem glOk (K : PySem.W.Frag) (m : ex K = true) : ∀ H, Only H → ∀ (k : Nat) (d : D), (ct K).gl[k]? = some d → noRef d = true ∧ Rep (ct K) ⟨fun _ => False, []⟩ H d ((ct K).gv k) := by
  intro H _ k d e
  rcases k with _ | k
  · cases e; exact ⟨rfl, rep_str.mpr ⟨rfl, by rw [sizeLine_eq]; decide, by decide +kernel⟩⟩
  cases e
end
end LawK25
namespace Fw
open PySem
section
variable {P : Pg} {T : List Fn} {n : Nat}
theorem Ev.ex {k f : Nat} {ds : List D} {F : Fn} {p : D → Prop} (h : T[f]? = some F) (hl : ds.length = F.par) (e : ∃ v, endS (exSs P (run P T k) F.body (startS F.slots ds) []) = .ok v [] ∧ noRef v = true ∧ p v) : ∃ v, p v ∧ Ev P T (k + 1) f ds v := by
  obtain ⟨v, e, n, q⟩ := e
  exact ⟨v, q, Ev.of h hl n e⟩
end
end Fw
namespace Fw
open PySem
section
variable {P : Pg} {T : List Fn} {n d : Nat}
def Low (u v w : Int) : Prop := Nat.gcd (Nat.gcd u.natAbs v.natAbs) w.natAbs = 1 ∧ (0 < w ∨ (w = 0 ∧ (0 < v ∨ (v = 0 ∧ 0 < u))))
theorem low_of {x y z : Int} (h : ¬ (x = 0 ∧ y = 0 ∧ z = 0)) : ∃ s u v w : Int, x = s * u ∧ y = s * v ∧ z = s * w ∧ Low u v w ∧ (s = (Nat.gcd (Nat.gcd x.natAbs y.natAbs) z.natAbs : Nat) ∧ (0 < z ∨ (z = 0 ∧ (0 < y ∨ (y = 0 ∧ 0 < x)))) ∨ s = -(Nat.gcd (Nat.gcd x.natAbs y.natAbs) z.natAbs : Nat) ∧ ¬ (0 < z ∨ (z = 0 ∧ (0 < y ∨ (y = 0 ∧ 0 < x))))) ∧ s ≠ 0 := by
  generalize hg : Nat.gcd (Nat.gcd x.natAbs y.natAbs) z.natAbs = g
  have g0 : 0 < g := by
    rw [← hg]
    rcases Nat.eq_zero_or_pos (Nat.gcd (Nat.gcd x.natAbs y.natAbs) z.natAbs) with e | e
    · rw [Nat.gcd_eq_zero_iff, Nat.gcd_eq_zero_iff] at e
      exact absurd ⟨by omega, by omega, by omega⟩ h
    · exact e
  have dz : (g : Int) ∣ z := Int.ofNat_dvd_left.mpr (by rw [← hg]; exact Nat.gcd_dvd_right _ _)
  have dx : (g : Int) ∣ x := Int.ofNat_dvd_left.mpr (by rw [← hg]; exact Nat.dvd_trans (Nat.gcd_dvd_left _ _) (Nat.gcd_dvd_left _ _))
  have dy : (g : Int) ∣ y := Int.ofNat_dvd_left.mpr (by rw [← hg]; exact Nat.dvd_trans (Nat.gcd_dvd_left _ _) (Nat.gcd_dvd_right _ _))
  obtain ⟨u, rfl⟩ := dx
  obtain ⟨v, rfl⟩ := dy
  obtain ⟨w, rfl⟩ := dz
  have h1 : Nat.gcd (Nat.gcd u.natAbs v.natAbs) w.natAbs = 1 := by
    rw [Int.natAbs_mul, Int.natAbs_mul, Int.natAbs_mul, Nat.gcd_mul_left, Nat.gcd_mul_left] at hg
    have : (g : Int).natAbs = g := by simp
    rw [this] at hg
    exact Nat.eq_of_mul_eq_mul_left g0 (by rw [hg]; simp)
  have gp : (0 : Int) < g := by omega
  have sg : ∀ t : Int, (0 < (g : Int) * t ↔ 0 < t) := fun t => by
    refine ⟨fun z => ?_, fun z => Int.mul_pos gp z⟩
    rcases Int.lt_trichotomy 0 t with q | q | q
    · exact q
    · rw [← q] at z; simp at z
    · have := Int.mul_neg_of_pos_of_neg gp q
      omega
  have sz : ∀ t : Int, ((g : Int) * t = 0 ↔ t = 0) := fun t => by rw [Int.mul_eq_zero]; constructor <;> intro z <;> omega
  simp only [sg, sz] at h ⊢
  by_cases hp : 0 < w ∨ (w = 0 ∧ (0 < v ∨ (v = 0 ∧ 0 < u)))
  · exact ⟨g, u, v, w, rfl, rfl, rfl, ⟨h1, hp⟩, .inl ⟨rfl, hp⟩, by omega⟩
  · refine ⟨-g, -u, -v, -w, by rw [Int.neg_mul_neg], by rw [Int.neg_mul_neg], by rw [Int.neg_mul_neg], ⟨by simpa using h1, by omega⟩, .inr ⟨rfl, hp⟩, by omega⟩
theorem low_fin {x y z t : Int} (h0 : ¬ (x = 0 ∧ y = 0 ∧ z = 0)) : (if (if z ≠ 0 then z else if y ≠ 0 then y else x) < 0 then 0 - t else t) = (if 0 < z ∨ (z = 0 ∧ (0 < y ∨ (y = 0 ∧ 0 < x))) then t else -t) := by
  have e : (if z ≠ 0 then z else if y ≠ 0 then y else x) < 0 ↔ ¬ (0 < z ∨ (z = 0 ∧ (0 < y ∨ (y = 0 ∧ 0 < x)))) := by
    split
    · omega
    · split <;> omega
  by_cases hp : 0 < z ∨ (z = 0 ∧ (0 < y ∨ (y = 0 ∧ 0 < x)))
  · rw [if_pos hp, if_neg (by rw [e]; exact fun z => z hp)]
  · rw [if_neg hp, if_pos (e.mpr hp)]; omega
end
end Fw
namespace Fw
open PySem
def tp (a b c : Int) : D := .tup [.int a, .int b, .int c]
section
variable {P : Pg} {T : List Fn} {n : Nat}
@[simp] theorem idx_lst (xs : List D) (i : Int) (M : Hh) : idxD (.lst xs) (.int i) M = match (ixN xs.length i).bind fun j => xs[j]? with
      | some d => .ok d M
      | none => .bad := rfl
@[simp] theorem idx_tup (xs : List D) (i : Int) (M : Hh) : idxD (.tup xs) (.int i) M = match (ixN xs.length i).bind fun j => xs[j]? with
      | some d => .ok d M
      | none => .bad := rfl
end
end Fw
namespace Fw
open PySem
section
variable {P : Pg} {T : List Fn} {n m : Nat}
theorem binI_pow {i j : Int} {M : Hh} (h : 0 ≤ j ∧ j ≤ 1000000 ∧ i.natAbs < 2 ^ 64) : binI .pow i j M = .ok (.int (i ^ j.toNat)) M := if_pos h
theorem lt3 : ¬ line < 3 := by unfold line; rw [sizeLine_eq]; decide
end
end Fw
namespace Fw
open PySem
section
variable {P : Pg} {T : List Fn} {n m : Nat}
end
end Fw
namespace Fw
open PySem
section
variable {P : Pg} {T : List Fn} {n t l : Nat}
end
end Fw
namespace Fw
open PySem
section
variable {P : Pg} {T : List Fn} {n l d : Nat}
end
end Fw
namespace Fw
open PySem
def lowS (x y z : Int) : Int := if 0 < z ∨ (z = 0 ∧ (0 < y ∨ (y = 0 ∧ 0 < x))) then (Nat.gcd (Nat.gcd x.natAbs y.natAbs) z.natAbs : Nat) else -(Nat.gcd (Nat.gcd x.natAbs y.natAbs) z.natAbs : Nat)
theorem low_spec {x y z : Int} (h : ¬ (x = 0 ∧ y = 0 ∧ z = 0)) : lowS x y z ≠ 0 ∧ x = lowS x y z * (x / lowS x y z) ∧ y = lowS x y z * (y / lowS x y z) ∧ z = lowS x y z * (z / lowS x y z) ∧ Low (x / lowS x y z) (y / lowS x y z) (z / lowS x y z) := by
  obtain ⟨s, u, v, w, ex, ey, ez, lw, sg, s0⟩ := low_of h
  have es : lowS x y z = s := by
    unfold lowS
    rcases sg with ⟨e, hp⟩ | ⟨e, hp⟩
    · rw [if_pos hp, e]
    · rw [if_neg hp, e]
  rw [es]
  have q : ∀ t, s * t / s = t := fun t => Int.mul_ediv_cancel_left _ s0
  have e1 : x / s = u := by rw [ex]; exact q u
  have e2 : y / s = v := by rw [ey]; exact q v
  have e3 : z / s = w := by rw [ez]; exact q w
  rw [e1, e2, e3]
  exact ⟨s0, ex, ey, ez, lw⟩
section
variable {P : Pg} {T : List Fn} {n d : Nat}
end
end Fw
namespace Fw
open PySem
theorem eqM_lst3 (x y z a b c : Int) (M : Hh) : eqM M (.lst [.int x, .int y, .int z]) (.lst [.int a, .int b, .int c]) = some (decide (x = a ∧ y = b ∧ z = c)) := by
  simp only [eqM, snap_lst, List.map_cons, List.map_nil, snap_int, plain, plainL, Bool.and_self, if_true, eqD, eqL, Bool.and_true]
  congr 1
  rw [Bool.eq_iff_iff]
  simp [and_assoc]
section
variable {P : Pg} {T : List Fn} {n d : Nat}
def EvX (P : Pg) (T : List Fn) (k f : Nat) (ds : List D) (c : Nat) (fs : List D) : Prop := noRefL fs = true ∧ ∃ M', run P T k f ds [] = .exn c fs M'
theorem EvX.own {k f : Nat} {ds : List D} {c : Nat} {fs : List D} (h : EvX P T k f ds c fs) (M : Hh) : ownD (run P T k f ds []) M = .exn c fs M := by
  obtain ⟨n, M', e⟩ := h
  rw [e]
  unfold ownD
  simp only
  rw [if_pos n]
theorem EvX.of {k f : Nat} {ds : List D} {c : Nat} {fs : List D} {F : Fn} (h : T[f]? = some F) (hl : ds.length = F.par) (n : noRefL fs = true) {M' : Hh} (e : endS (exSs P (run P T k) F.body (startS F.slots ds) []) = .exn c fs M') : EvX P T (k + 1) f ds c fs :=
  ⟨n, M', by rw [run_succ h hl, e]⟩
@[simp] theorem seqOf_tp (a b c : Int) (M : Hh) : seqOf M (tp a b c) = some [.int a, .int b, .int c] := rfl
@[simp] theorem idx_tp0 (a b c : Int) (M : Hh) : idxD (tp a b c) (.int 0) M = .ok (.int a) M := rfl
@[simp] theorem idx_tp1 (a b c : Int) (M : Hh) : idxD (tp a b c) (.int 1) M = .ok (.int b) M := rfl
@[simp] theorem idx_tp2 (a b c : Int) (M : Hh) : idxD (tp a b c) (.int 2) M = .ok (.int c) M := rfl
@[simp] theorem noRef_tp (a b c : Int) : noRef (tp a b c) = true := rfl
@[simp] theorem len_tp (m : Bool) (a b c : Int) (M : Hh) : biD m .len [tp a b c] M = .ok (.int 3) M := rfl
@[simp] theorem cmp_isT (b c : Bool) (M : Hh) : cmpD .is (.bl b) (.bl c) M = some (b == c) := rfl
@[simp] theorem cmp_isnotT (b c : Bool) (M : Hh) : cmpD .isnot (.bl b) (.bl c) M = some (!(b == c)) := rfl
end
end Fw
namespace Fw
open PySem
section
variable {P : Pg} {T : List Fn} {n d l : Nat}
end
end Fw
namespace Fw
open PySem
theorem rng1_its {m : Int} {M : Hh} (h1 : 0 ≤ m) (h2 : m ≤ 100000) : itsD .rng1 [.int m] M = some (rngL 0 1 m.toNat, []) := by
  have : lim m := by unfold lim; omega
  simp only [itsD, rng1It, if_pos this]
theorem loop_keep {is : List Nat} {b : Sl → Hh → OutS} {xs : List D} {σ : Sl} (I : Sl → Prop) (h0 : I σ)
    (step : ∀ x ∈ xs, ∀ σ, I σ → ∃ σ1 σ', bindTg is x σ = some σ1 ∧ (b σ1 [] = .ok .nx σ' [] ∨ b σ1 [] = .ok .cnt σ' []) ∧ I σ') : ∃ σ', forL (bindTg is) b [] xs σ [] = .ok .nx σ' [] ∧ I σ' := by
  obtain ⟨σ', M', e, hM, _, hI⟩ := forL_all (bind := bindTg is) (b := b) (g := []) (fun ys σ M => M = [] ∧ (∀ y ∈ ys, y ∈ xs) ∧ I σ) (fun _ _ _ _ => by simp)
    (fun x ys σ M ⟨hM, hx, hI⟩ => by
      subst hM
      obtain ⟨σ1, σ', e1, e2, h'⟩ := step x (hx x (by simp)) σ hI
      exact ⟨σ1, σ', [], e1, e2, rfl, fun y hy => hx y (List.mem_cons_of_mem _ hy), h'⟩) xs σ [] ⟨rfl, fun y hy => hy, h0⟩
  subst hM
  exact ⟨σ', e, hI⟩
end Fw
namespace Fw
open PySem
abbrev Pt := Int × Int × Int
def pt (p : Pt) : D := tp p.1 p.2.1 p.2.2
def LowP (p : Pt) : Prop := Low p.1 p.2.1 p.2.2
def BdP (n : Nat) (p : Pt) : Prop := Bd n p.1 ∧ Bd n p.2.1 ∧ Bd n p.2.2
def crs (p q : Pt) : Pt := (p.2.1 * q.2.2 - p.2.2 * q.2.1, p.2.2 * q.1 - p.1 * q.2.2, p.1 * q.2.1 - p.2.1 * q.1)
def dot (p q : Pt) : Int := p.1 * q.1 + p.2.1 * q.2.1 + p.2.2 * q.2.2
def det (p q r : Pt) : Int := dot (crs p q) r
def Zer (p : Pt) : Prop := p.1 = 0 ∧ p.2.1 = 0 ∧ p.2.2 = 0
def lowP (p : Pt) : Pt := (p.1 / lowS p.1 p.2.1 p.2.2, p.2.1 / lowS p.1 p.2.1 p.2.2, p.2.2 / lowS p.1 p.2.1 p.2.2)
theorem lowP_spec {p : Pt} (h : ¬ Zer p) : ∃ s : Int, s ≠ 0 ∧ p.1 = s * (lowP p).1 ∧ p.2.1 = s * (lowP p).2.1 ∧ p.2.2 = s * (lowP p).2.2 ∧ LowP (lowP p) := by
  obtain ⟨s0, e1, e2, e3, lw⟩ := low_spec h
  exact ⟨_, s0, e1, e2, e3, lw⟩
def Col (ps : List Pt) : Prop := ∀ p ∈ ps, ∀ q ∈ ps, ∀ r ∈ ps, det p q r = 0
instance (ps : List Pt) : Decidable (Col ps) := by unfold Col; infer_instance
def Scan (r : OutS) (o : Option D) (I : Sl → Prop) : Prop := match o with
  | none => ∃ σ', r = .ok .nx σ' [] ∧ I σ'
  | some d => ∃ σ', r = .ok (.ret d) σ' []
theorem compL_of {α : Type} {bind : D → Option Sl} {c e : Sl → Hh → Out D} {g : List (Nat × List D)} {M : Hh} (f : α → D) (p : α → Bool) (h : α → D) (hg : guardOk g M) : ∀ (xs : List α) (acc : List D),
    (∀ x ∈ xs, ∃ σ, bind (f x) = some σ ∧ c σ M = .ok (.bl (p x)) M ∧ (p x = true → e σ M = .ok (h x) M)) → compL bind c e g (xs.map f) acc M = .ok (acc ++ (xs.filter p).map h) M
  | [], acc, _ => by simp [compL]
  | x :: xs, acc, hx => by
    obtain ⟨σ, e1, e2, e3⟩ := hx x (by simp)
    have ih := fun acc => compL_of f p h hg xs acc fun y hy => hx y (List.mem_cons_of_mem _ hy)
    rw [List.map_cons]
    unfold compL
    rw [if_pos hg, e1]
    simp only [e2, Out.bind_ok]
    cases hp : p x with
    | true => rw [ifB_true, e3 hp, Out.bind_ok, ih, List.filter_cons, if_pos hp]; simp
    | false => rw [ifB_false, ih, List.filter_cons, hp]; simp
theorem noRefL_pts (ps : List Pt) : noRefL (ps.map pt) = true := by
  induction ps with
  | nil => rfl
  | cons p ps ih => simp [ih, pt]
@[simp] theorem noRef_pt (p : Pt) : noRef (pt p) = true := rfl
section
variable {P : Pg} {T : List Fn} {n d l : Nat}
theorem crs_bd {p : Nat} {a b : Pt} (ha : BdP p a) (hb : BdP p b) : BdP (2 * p + 1) (crs a b) := by
  have bd : ∀ {i j s t : Int}, Bd p i → Bd p j → Bd p s → Bd p t → Bd (2 * p + 1) (i * j - s * t) := fun h1 h2 h3 h4 => ((h1.mul h2).sub (h3.mul h4)).mono (by omega)
  exact ⟨bd ha.2.1 hb.2.2 ha.2.2 hb.2.1, bd ha.2.2 hb.1 ha.1 hb.2.2, bd ha.1 hb.2.1 ha.2.1 hb.1⟩
end
end Fw
namespace Fw
open PySem
section
variable {P : Pg} {T : List Fn} {n t l d m : Nat}
end
end Fw
namespace Fw
open PySem
def rj (i : Nat) : D := .int (0 + (i : Int) * 1)
theorem rngL_rj (n : Nat) : rngL 0 1 n = (List.range n).map rj := rfl
@[simp] theorem noRef_rj (i : Nat) : noRef (rj i) = true := rfl
def gP (ps : List Pt) (i : Nat) : Pt := ps.getD i (0, 0, 0)
theorem gP_eq {ps : List Pt} {i : Nat} (hi : i < ps.length) : gP ps i = ps[i] := by
  unfold gP
  rw [List.getD_eq_getElem?_getD, List.getElem?_eq_getElem hi]
  rfl
theorem its_rj (i : Nat) (h : i ≤ 100000) (M : Hh) : itsD .rng1 [rj i] M = some ((List.range i).map rj, []) := by
  have e : rj i = .int i := by unfold rj; congr 1; omega
  rw [e, rng1_its (by omega) (by omega)]
  simp [rngL_rj]
section
variable {P : Pg} {T : List Fn} {n t : Nat}
end
end Fw
namespace Fw
open PySem
theorem exSs_append {P : Pg} {Φ : Orc} (a b : List S) (σ : Sl) (M : Hh) : exSs P Φ (a ++ b) σ M = (exSs P Φ a σ M).next fun σ1 M1 => exSs P Φ b σ1 M1 := by
  induction a generalizing σ M with
  | nil => simp
  | cons s a ih =>
    rw [List.cons_append, ex_cons, ex_cons]
    cases exS P Φ s σ M with
    | ok f σ1 M1 => cases f <;> simp [ih]
    | exn _ _ _ _ => rfl
    | bad => rfl
theorem while_gcd_of {P : Pg} {Φ : Orc} {M : Hh} {i j : Nat} {b : Sl → Hh → OutS} (hb : ∀ (σ : Sl) (x y : Nat), σ[i]? = some (some (D.int x)) → σ[j]? = some (some (D.int y)) → 0 < y → b σ M = .ok .nx ((σ.set i (some (.int y))).set j (some (.int (x % y : Nat)))) M) (hij : i ≠ j) : ∀ (y x : Nat) (σ : Sl), σ[i]? = some (some (D.int x)) → σ[j]? = some (some (D.int y)) →
    whileR (evE P Φ (.cmp .ne (.var j) (.lit (.int (0))))) b σ M = .ok .nx ((σ.set i (some (.int (Nat.gcd x y : Nat)))).set j (some (.int 0))) M := by
  intro y
  induction y using Nat.strongRecOn with
  | ind y ih =>
    intro x σ hi hj
    rcases Nat.eq_zero_or_pos y with h | h
    · subst h
      rw [whileR_stop (M1 := M) (by simp [hj, eqM_int])]
      congr 1
      apply List.ext_getElem?
      intro k
      by_cases e1 : k = j
      · subst e1
        have : k < σ.length := by
          rcases Nat.lt_or_ge k σ.length with q | q
          · exact q
          · rw [List.getElem?_eq_none q] at hj; cases hj
        rw [List.getElem?_set_self (by simpa using this), hj]
        rfl
      · rw [List.getElem?_set_ne (Ne.symm e1)]
        by_cases e2 : k = i
        · subst e2
          have : k < σ.length := by
            rcases Nat.lt_or_ge k σ.length with q | q
            · exact q
            · rw [List.getElem?_eq_none q] at hi; cases hi
          rw [List.getElem?_set_self this, hi]
          simp
        · rw [List.getElem?_set_ne (Ne.symm e2)]
    · have hp : (0 : Int) < y := by omega
      have li : i < σ.length := by
        rcases Nat.lt_or_ge i σ.length with q | q
        · exact q
        · rw [List.getElem?_eq_none q] at hi; cases hi
      have lj : j < σ.length := by
        rcases Nat.lt_or_ge j σ.length with q | q
        · exact q
        · rw [List.getElem?_eq_none q] at hj; cases hj
      have e := ih (x % y) (Nat.mod_lt _ h) y ((σ.set i (some (.int y))).set j (some (.int ((x % y : Nat)))))
        (by rw [List.getElem?_set_ne (Ne.symm hij), List.getElem?_set_self li])
        (by rw [List.getElem?_set_self (by simpa using lj)])
      have hz : ¬ y = 0 := by omega
      refine whileR_go (M1 := M) (M' := M) (σ' := (σ.set i (some (.int y))).set j (some (.int ((x % y : Nat))))) (by simp [hj, eqM_int, hz]) ?_ (r := .ok .nx ((σ.set i (some (.int (Nat.gcd x y : Nat)))).set j (some (.int 0))) M) ?_ (by intro z; cases z)
      · exact hb σ x y hi hj h
      · rw [e]
        have g : Nat.gcd y (x % y) = Nat.gcd x y := by
          rw [Nat.gcd_comm y, ← Nat.gcd_rec, Nat.gcd_comm]
        rw [g]
        congr 1
        apply List.ext_getElem?
        intro k
        by_cases e1 : k = j
        · subst e1
          rw [List.getElem?_set_self (by simpa using lj), List.getElem?_set_self (by simpa using lj)]
        · rw [List.getElem?_set_ne (Ne.symm e1), List.getElem?_set_ne (Ne.symm e1)]
          by_cases e2 : k = i
          · subst e2
            rw [List.getElem?_set_self (by simpa using li), List.getElem?_set_self (by simpa using li)]
          · rw [List.getElem?_set_ne (Ne.symm e2), List.getElem?_set_ne (Ne.symm e2), List.getElem?_set_ne (Ne.symm e1), List.getElem?_set_ne (Ne.symm e2)]
theorem while_gcd {P : Pg} {Φ : Orc} {M : Hh} {i j : Nat} (hij : i ≠ j) (y x : Nat) (σ : Sl) (hi : σ[i]? = some (some (D.int x))) (hj : σ[j]? = some (some (D.int y))) :
    whileR (evE P Φ (.cmp .ne (.var j) (.lit (.int (0))))) (exSs P Φ [.par [i, j] [(.var j), (.bin false .mod (.var i) (.var j))]]) σ M = .ok .nx ((σ.set i (some (.int (Nat.gcd x y : Nat)))).set j (some (.int 0))) M :=
  while_gcd_of (fun σ x y hi hj h => by
    have hp : (0 : Int) < y := by omega
    simp [hi, hj, binI_modP hp, setAll]) hij y x σ hi hj
def gcdL (g : Nat) : List Int → Nat
  | [] => g
  | x :: xs => gcdL (Nat.gcd g x.natAbs) xs
theorem gcdL_dvd0 : ∀ (xs : List Int) (g : Nat), gcdL g xs ∣ g
  | [], g => Nat.dvd_refl g
  | x :: xs, g => Nat.dvd_trans (gcdL_dvd0 xs _) (Nat.gcd_dvd_left _ _)
theorem gcdL_dvd : ∀ (xs : List Int) (g : Nat) {x : Int}, x ∈ xs → (gcdL g xs : Int) ∣ x
  | y :: xs, g, x, h => by
    rcases List.mem_cons.mp h with e | h
    · subst e
      exact Int.ofNat_dvd_left.mpr (Nat.dvd_trans (gcdL_dvd0 xs _) (Nat.gcd_dvd_right _ _))
    · exact gcdL_dvd xs _ h
theorem gcdL_ne {xs : List Int} {g : Nat} (h : ∃ x ∈ xs, x ≠ 0) : gcdL g xs ≠ 0 := by
  obtain ⟨x, hx, h0⟩ := h
  intro z
  have := gcdL_dvd xs g hx
  rw [z] at this
  exact h0 (by simpa using this)
theorem gcdL_bd {xs : List Int} {g n : Nat} (h : ∃ x ∈ xs, x ≠ 0) (hb : ∀ x ∈ xs, Bd n x) : Bd n (gcdL g xs : Int) := by
  obtain ⟨x, hx, h0⟩ := h
  obtain ⟨u, e⟩ := gcdL_dvd xs g hx
  exact Bd.dvd e h0 (hb x hx)
def nzL (xs : List Int) : List Int := xs.filter fun x => !(x == 0)
theorem nzL_ne {xs : List Int} (h : ∃ x ∈ xs, x ≠ 0) : nzL xs ≠ [] := by
  obtain ⟨x, hx, h0⟩ := h
  intro z
  have : x ∈ nzL xs := List.mem_filter.mpr ⟨hx, by simpa using h0⟩
  rw [z] at this
  cases this
def sgL (l : Int) (xs : List Int) : Int := if l < 0 then -(gcdL 0 xs : Int) else gcdL 0 xs
def lastL (xs : List Int) : Int := (nzL xs).getLastD 0
def lowLs (xs : List Int) : List Int := xs.map (· / sgL (lastL xs) xs)
theorem sgL_ne {l : Int} {xs : List Int} (h : ∃ x ∈ xs, x ≠ 0) : sgL l xs ≠ 0 := by
  have := gcdL_ne (g := 0) h
  unfold sgL
  split <;> omega
theorem sgL_bd {l : Int} {xs : List Int} {n : Nat} (h : ∃ x ∈ xs, x ≠ 0) (hb : ∀ x ∈ xs, Bd n x) : Bd n (sgL l xs) := by
  have := gcdL_bd (g := 0) h hb
  unfold sgL
  split
  · exact this.neg
  · exact this
theorem sgL_dvd {l : Int} {xs : List Int} {x : Int} (h : x ∈ xs) : x = sgL l xs * (x / sgL l xs) := by
  have : sgL l xs ∣ x := by
    unfold sgL
    split
    · exact Int.neg_dvd.mpr (gcdL_dvd xs 0 h)
    · exact gcdL_dvd xs 0 h
  rw [Int.mul_ediv_cancel' this]
theorem sgL_fdiv {l : Int} {xs : List Int} {x : Int} {n : Nat} {M : Hh} (h : ∃ x ∈ xs, x ≠ 0) (hb : ∀ x ∈ xs, Bd 8000 x) (hx : x ∈ xs) : binI .fdiv x (sgL l xs) M = .ok (.int (x / sgL l xs)) M := by
  rw [binI_fdiv (divOk_bd (sgL_ne h) (sgL_bd h hb))]
  conv => lhs; rw [sgL_dvd (l := l) hx]
  rw [Int.mul_fdiv_cancel_left _ (sgL_ne h)]
theorem lowLs_pt {p : Pt} (h : ¬ Zer p) : lowLs [p.1, p.2.1, p.2.2] = [(lowP p).1, (lowP p).2.1, (lowP p).2.2] := by
  obtain ⟨x, y, z⟩ := p
  have g : (gcdL 0 [x, y, z] : Int) = (Nat.gcd (Nat.gcd x.natAbs y.natAbs) z.natAbs : Nat) := by simp [gcdL]
  have e : sgL (lastL [x, y, z]) [x, y, z] = lowS x y z := by
    unfold sgL lowS
    rw [g]
    have l : lastL [x, y, z] = if z ≠ 0 then z else if y ≠ 0 then y else x := by
      unfold lastL nzL
      by_cases hx : x = 0 <;> by_cases hy : y = 0 <;> by_cases hz : z = 0 <;> simp [hx, hy, hz]
    have := low_fin (x := x) (y := y) (z := z) (t := ((Nat.gcd (Nat.gcd x.natAbs y.natAbs) z.natAbs : Nat) : Int)) h
    rw [l]
    rw [← this]
    generalize (if z ≠ 0 then z else if y ≠ 0 then y else x) = q
    split <;> omega
  unfold lowLs
  rw [e]
  rfl
theorem idx_last {xs : List Int} {M : Hh} (h : xs ≠ []) : idxD (.lst (xs.map D.int)) (.int (-1)) M = .ok (.int (xs.getLastD 0)) M := by
  have hl : 0 < xs.length := List.length_pos_iff.mpr h
  have e1 : ixN xs.length (-1) = some (xs.length - 1) := by
    unfold ixN
    rw [if_neg (by decide), if_pos (by omega)]
    congr 1
    omega
  have e2 : xs[xs.length - 1]? = some (xs.getLastD 0) := by
    rw [← List.getLast?_eq_getElem?, List.getLast?_eq_some_getLast h]
    congr 1
    cases xs with
    | nil => exact absurd rfl h
    | cons a b => simp [List.getLastD]
  simp [e1, e2]
section
variable {P : Pg} {T : List Fn} {n : Nat}
theorem abs_nat (x : Int) : (if x < 0 then -x else x) = (x.natAbs : Int) := by split <;> omega
end
end Fw
namespace Fw
open PySem
section
variable {P : Pg} {T : List Fn} {n c m l : Nat}
theorem line_pos (n : Nat) (h : n ≤ 100000) : n < line := by unfold line; rw [sizeLine_eq]; omega
end
end Fw
namespace Fw
open PySem
section
variable {P : Pg} {T : List Fn} {n c m l s o : Nat}
end
end Fw
namespace Fw
open PySem
def Acc (r : OutS) (acc : List D) (I : Sl → Prop) : Prop := ∃ σ' rest, r = .ok .nx σ' (.lst acc :: rest) ∧ I σ'
def rg (lo hi : Nat) : List Nat := (List.range (hi - lo)).map (lo + ·)
theorem mem_rg {lo hi i : Nat} (h : i ∈ rg lo hi) : lo ≤ i ∧ i < hi := by
  obtain ⟨j, hj, rfl⟩ := List.mem_map.mp h
  have := List.mem_range.mp hj
  omega
theorem its_rg {lo hi : Nat} (h1 : lo ≤ 100000) (h2 : hi ≤ 100000) (M : Hh) : itsD .rng2 [.int (lo : Int), .int (hi : Int)] M = some ((rg lo hi).map fun i : Nat => D.int (i : Int), []) := by
  have h : lim (lo : Int) ∧ lim (hi : Int) := by unfold lim; omega
  simp only [itsD, rng2It, if_pos h]
  congr 2
  unfold rngL rg
  rw [List.map_map, show ((hi : Int) - (lo : Int)).toNat = hi - lo by omega]
  apply List.map_congr_left
  intro i _
  simp
theorem its_rng {n : Nat} (h : n ≤ 100000) (M : Hh) : itsD .rng1 [.int (n : Int)] M = some ((List.range n).map fun i : Nat => D.int (i : Int), []) := by
  rw [rng1_its (by omega) (by omega)]
  congr 2
  unfold rngL
  simp
abbrev Q4 := Nat × Nat × Nat × Nat
def q4 (q : Q4) : D := .tup [.int (q.1 : Int), .int (q.2.1 : Int), .int (q.2.2.1 : Int), .int (q.2.2.2 : Int)]
def gen4 (a b c d : Pt) : Bool := !decide (det b c d = 0) && (!decide (det a c d = 0) && (!decide (det a b d = 0) && !decide (det a b c = 0)))
def ok4 (ps : List Pt) (q : Q4) : Bool := gen4 (gP ps q.1) (gP ps q.2.1) (gP ps q.2.2.1) (gP ps q.2.2.2)
section
variable {P : Pg} {T : List Fn} {n d l y o ip i : Nat}
end
end Fw
namespace Fw
open PySem
section
variable {P : Pg} {T : List Fn} {n d l y o ip i g w : Nat}
theorem Scan.imp {r : OutS} {o : Option D} {I J : Sl → Prop} (h : Scan r o I) (hi : ∀ σ, I σ → J σ) : Scan r o J := by
  cases o with
  | none => obtain ⟨σ', e, h'⟩ := h; exact ⟨σ', e, hi _ h'⟩
  | some d => exact h
end
end Fw
namespace Fw
open PySem
theorem Acc.imp {r : OutS} {acc : List D} {I J : Sl → Prop} (h : Acc r acc I) (hi : ∀ σ, I σ → J σ) : Acc r acc J := by
  obtain ⟨σ', rest, e, h'⟩ := h
  exact ⟨σ', rest, e, hi _ h'⟩
section
variable {P : Pg} {T : List Fn} {n c t r g : Nat}
end
mutual
theorem eqD_self : ∀ (n : Nat) (d : D), plain n d = true → eqD d d = true
  | _, .non, _ => rfl
  | _, .bl _, _ => by simp [eqD]
  | _, .int _, _ => by simp [eqD]
  | _, .str _, _ => by simp [eqD]
  | 0, .tup _, h => by simp [plain] at h
  | 0, .lst _, h => by simp [plain] at h
  | 0, .ref _, h => by simp [plain] at h
  | 0, .exc _ _, h => by simp [plain] at h
  | 0, .dic _ _, h => by simp [plain] at h
  | 0, .cls _, h => by simp [plain] at h
  | n + 1, .tup xs, h => by simp only [plain] at h; simp only [eqD]; exact eqL_self n xs h
  | n + 1, .lst xs, h => by simp only [plain] at h; simp only [eqD]; exact eqL_self n xs h
  | n + 1, .ref _, h => by simp [plain] at h
  | n + 1, .exc _ _, h => by simp [plain] at h
  | n + 1, .dic _ _, h => by simp [plain] at h
  | n + 1, .cls _, h => by simp [plain] at h
theorem eqL_self : ∀ (n : Nat) (xs : List D), plainL n xs = true → eqL xs xs = true
  | _, [], _ => rfl
  | n, x :: xs, h => by
    simp only [plainL, Bool.and_eq_true] at h
    simp only [eqL, Bool.and_eq_true]
    exact ⟨eqD_self n x h.1, eqL_self n xs h.2⟩
end
theorem eqM_self {d : D} (h : noRef d = true) (p : plain 12 d = true) (M : Hh) : eqM M d d = some true := by
  unfold eqM
  rw [snap_noRef 12 d h, p]
  simp only [Bool.and_self, if_true]
  rw [eqD_self 12 d p]
end Fw
namespace Fw
open PySem
def erase (ps : List Pt) (j : Nat) : List Pt := ps.take j ++ ps.drop (j + 1)
theorem det_perm {p q r : Pt} (h : det p q r ≠ 0) : det p q r ≠ 0 ∧ det p r q ≠ 0 ∧ det q p r ≠ 0 ∧ det q r p ≠ 0 ∧ det r p q ≠ 0 ∧ det r q p ≠ 0 := by
  have e1 : det p r q = - det p q r := by unfold det dot crs; grind
  have e2 : det q p r = - det p q r := by unfold det dot crs; grind
  have e3 : det q r p = det p q r := by unfold det dot crs; grind
  have e4 : det r p q = det p q r := by unfold det dot crs; grind
  have e5 : det r q p = - det p q r := by unfold det dot crs; grind
  rw [e1, e2, e3, e4, e5]
  omega
end Fw
namespace Fw
open PySem
abbrev M9 := Pt × Pt × Pt
def l9 (m : M9) : List Int := [m.1.1, m.1.2.1, m.1.2.2, m.2.1.1, m.2.1.2.1, m.2.1.2.2, m.2.2.1, m.2.2.2.1, m.2.2.2.2]
def t9 (m : M9) : D := .tup ((l9 m).map D.int)
def app (m : M9) (p : Pt) : Pt := (dot m.1 p, dot m.2.1 p, dot m.2.2 p)
def BdM (n : Nat) (m : M9) : Prop := BdP n m.1 ∧ BdP n m.2.1 ∧ BdP n m.2.2
theorem BdM.all {n : Nat} {m : M9} (h : BdM n m) : ∀ x ∈ l9 m, Bd n x := by
  intro x hx
  simp only [l9, List.mem_cons, List.mem_nil_iff, or_false] at hx
  obtain ⟨⟨h1, h2, h3⟩, ⟨h4, h5, h6⟩, h7, h8, h9⟩ := h
  rcases hx with rfl | rfl | rfl | rfl | rfl | rfl | rfl | rfl | rfl <;> assumption
end Fw
namespace Fw
open PySem
section
variable {P : Pg} {T : List Fn} {n d l w t c v : Nat}
@[simp] theorem noRef_t9 (m : M9) : noRef (t9 m) = true := rfl
end
end Fw
namespace Fw
open PySem
section
variable {P : Pg} {T : List Fn} {n m t l c o d e : Nat}
instance (p : Pt) : Decidable (Zer p) := by unfold Zer; infer_instance
def stp (ln : Pt) (acc : List Pt) (u : Pt) : List Pt := if Zer (crs ln u) then acc else if lowP (crs ln u) ∈ acc then acc else acc ++ [lowP (crs ln u)]
end
end Fw
namespace Fw
open PySem
section
variable {P : Pg} {T : List Fn} {n d l w t c a : Nat}
end
end Fw
namespace Fw
open PySem
structure Gen (p q r t : Pt) : Prop where
  d0 : det q r t ≠ 0
  d1 : det p r t ≠ 0
  d2 : det p q t ≠ 0
  d3 : det p q r ≠ 0
theorem Gen.f1 {p q r t : Pt} (h : Gen p q r t) : det p t r ≠ 0 := (det_perm h.d1).2.1
end Fw
namespace Fw
open PySem
section
variable {P : Pg} {T : List Fn} {n d l t : Nat}
end
theorem BdP.mono {n m : Nat} {p : Pt} (h : BdP n p) (k : n ≤ m) : BdP m p := ⟨h.1.mono k, h.2.1.mono k, h.2.2.mono k⟩
theorem BdM.mono {n m : Nat} {q : M9} (h : BdM n q) (k : n ≤ m) : BdM m q := ⟨h.1.mono k, h.2.1.mono k, h.2.2.mono k⟩
end Fw
namespace Fw
open PySem
def atom : D → Bool
  | .int _ => true
  | .bl _ => true
  | .str _ => true
  | .non => true
  | _ => false
structure N9 (P : Pg) (v : D) (M : Hh) (xs : List D) : Prop where
  n : noRef v = true
  its : itsD .seq [v] M = some (xs, [])
  isi : isTys P M v [.list, .tuple] = some true
  len : biD false .len [v] M = .ok (.int 9) M
  l9 : xs.length = 9
  at_ : ∀ x ∈ xs, atom x = true
section
variable {P : Pg} {T : List Fn} {n d l w t c a : Nat}
end
end Fw
namespace Fw
open PySem
theorem idx_at {vs : List D} {j : Nat} {v : D} (h : vs[j]? = some v) (M : Hh) : idxD (.lst vs) (.int (j : Int)) M = .ok v M := by
  have hj : j < vs.length := by
    rcases Nat.lt_or_ge j vs.length with q | q
    · exact q
    · rw [List.getElem?_eq_none q] at h; cases h
  have e : ixN vs.length (j : Int) = some j := by
    unfold ixN
    rw [if_pos (by omega), if_pos (by omega), Int.toNat_natCast]
  simp only [idxD, seqOf, e, Option.bind_some, h]
theorem fmod_nat (w : Int) {m : Nat} (h : 0 < m) : ∃ j : Nat, j < m ∧ w % (m : Int) = (j : Int) := by
  have h1 := Int.emod_nonneg w (b := (m : Int)) (by omega)
  have h2 := Int.emod_lt_of_pos w (b := (m : Int)) (by omega)
  exact ⟨(w % (m : Int)).toNat, by omega, by omega⟩
section
variable {P : Pg} {T : List Fn} {n a c : Nat}
end
end Fw
namespace Fw
open PySem
def fLow3 : Fn := ⟨3, 7, [
  .asg (.name 3) (.bi false .abs [(.var 0)]),
  .loop [4] .seq [(.lst false [(.bi false .abs [(.var 1)]), (.bi false .abs [(.var 2)])])] [
    .whl (.cmp .ne (.var 4) (.lit (.int (0)))) [
      .par [3, 4] [(.var 4), (.bin false .mod (.var 3) (.var 4))]]],
  .asg (.name 5) (.idx (.comp false [6] .seq [(.lst false [(.var 0), (.var 1), (.var 2)])] (some (.cmp .ne (.var 6) (.lit (.int (0))))) (.var 6)) (.neg (.lit (.int (1))))),
  .ite (.cmp .lt (.var 5) (.lit (.int (0)))) [
    .asg (.name 3) (.bin false .sub (.lit (.int (0))) (.var 3))] [],
  .ret (.tup [(.bin false .fdiv (.var 0) (.var 3)), (.bin false .fdiv (.var 1) (.var 3)), (.bin false .fdiv (.var 2) (.var 3))])]⟩
section
variable {P : Pg} {T : List Fn} {n d l w a o y : Nat}
theorem low3_ok (h : T[n]? = some fLow3) {k : Nat} (hk : 1 ≤ k) {x y z : Int} (h0 : ¬ (x = 0 ∧ y = 0 ∧ z = 0)) (bx : Bd 8000 x) (by_ : Bd 8000 y) (bz : Bd 8000 z) : Ev P T k n [.int x, .int y, .int z] (pt (lowP (x, y, z))) := by
  obtain ⟨k, rfl⟩ : ∃ j, k = j + 1 := ⟨k - 1, by omega⟩
  have nz : ∃ t ∈ [x, y, z], t ≠ 0 := by
    by_cases e1 : x = 0
    · by_cases e2 : y = 0
      · exact ⟨z, by simp, fun e => h0 ⟨e1, e2, e⟩⟩
      · exact ⟨y, by simp, e2⟩
    · exact ⟨x, by simp, e1⟩
  have hb : ∀ t ∈ [x, y, z], Bd 8000 t := by
    intro t ht
    simp only [List.mem_cons, List.mem_nil_iff, or_false] at ht
    rcases ht with rfl | rfl | rfl <;> assumption
  have g3 : gcdL 0 [x, y, z] = Nat.gcd (Nat.gcd x.natAbs y.natAbs) z.natAbs := by simp [gcdL]
  have ln : ¬ line < 3 := by unfold line; rw [sizeLine_eq]; decide
  have c1 : ∀ s3 s4 s5 s6, compL (fun t => bindTg [6] t [some (.int x), some (.int y), some (.int z), s3, s4, s5, s6]) (evE P (run P T k) (.cmp .ne (.var 6) (.lit (.int (0))))) (evE P (run P T k) (.var 6)) [] [.int x, .int y, .int z] [] [] = .ok ((nzL [x, y, z]).map D.int) [] := by
    intro s3 s4 s5 s6
    have := compL_of (α := Int) (bind := fun t => bindTg [6] t [some (.int x), some (.int y), some (.int z), s3, s4, s5, s6]) (c := evE P (run P T k) (.cmp .ne (.var 6) (.lit (.int (0))))) (e := evE P (run P T k) (.var 6)) (g := []) (M := []) D.int (fun t => !(t == 0)) D.int (by simp) [x, y, z] [] (by
      intro t _
      exact ⟨_, rfl, by simp [eqM_int], fun _ => by simp⟩)
    exact this
  have il : ∀ M, idxD (.lst ((nzL [x, y, z]).map D.int)) (.int (-1)) M = .ok (.int (lastL [x, y, z])) M := fun M => idx_last (M := M) (nzL_ne nz)
  have w1 := while_gcd (P := P) (Φ := run P T k) (M := []) (i := 3) (j := 4) (by decide) y.natAbs x.natAbs [some (.int x), some (.int y), some (.int z), some (.int x.natAbs), some (.int y.natAbs), none, none] rfl rfl
  have w2 := while_gcd (P := P) (Φ := run P T k) (M := []) (i := 3) (j := 4) (by decide) z.natAbs (Nat.gcd x.natAbs y.natAbs) [some (.int x), some (.int y), some (.int z), some (.int (Nat.gcd x.natAbs y.natAbs : Nat)), some (.int z.natAbs), none, none] rfl rfl
  simp only [List.set_cons_succ, List.set_cons_zero] at w1 w2
  have ab : ∀ (t : Int) (M : Hh), biD false .abs [.int t] M = .ok (.int t.natAbs) M := fun t M => by simp only [biD, absD, abs_nat]
  have st1 : exSs P (run P T k) [.asg (.name 3) (.bi false .abs [(.var 0)]),
  .loop [4] .seq [(.lst false [(.bi false .abs [(.var 1)]), (.bi false .abs [(.var 2)])])] [
    .whl (.cmp .ne (.var 4) (.lit (.int (0)))) [
      .par [3, 4] [(.var 4), (.bin false .mod (.var 3) (.var 4))]]]] [some (.int x), some (.int y), some (.int z), none, none, none, none] [] = .ok .nx [some (.int x), some (.int y), some (.int z), some (.int (gcdL 0 [x, y, z] : Nat)), some (.int 0), none, none] [] := by
    rw [g3]
    simp [ab, itsD, seqIt, guardOf, forL, bindTg, ex_whl, -ex_par] at w1 w2 ⊢
    rw [w1]
    simp [-ex_par]
    rw [w2]
    simp
  have fd : ∀ (t : Int) (M : Hh), t ∈ [x, y, z] → binI .fdiv t (sgL (lastL [x, y, z]) [x, y, z]) M = .ok (.int (t / sgL (lastL [x, y, z]) [x, y, z])) M := fun t M ht => sgL_fdiv (n := 0) nz hb ht
  have f1 := fun M => fd x M (by simp)
  have f2 := fun M => fd y M (by simp)
  have f3 := fun M => fd z M (by simp)
  have e0 : (if (lastL [x, y, z]) < 0 then 0 - (gcdL 0 [x, y, z] : Int) else gcdL 0 [x, y, z]) = sgL (lastL [x, y, z]) [x, y, z] := by unfold sgL; split <;> omega
  have res : pt (lowP (x, y, z)) = .tup [.int (x / sgL (lastL [x, y, z]) [x, y, z]), .int (y / sgL (lastL [x, y, z]) [x, y, z]), .int (z / sgL (lastL [x, y, z]) [x, y, z])] := by
    have := lowLs_pt (p := (x, y, z)) h0
    simp only [lowLs, List.map_cons, List.map_nil, List.cons.injEq, and_true] at this
    obtain ⟨q1, q2, q3⟩ := this
    rw [q1, q2, q3]
    rfl
  refine Ev.of h rfl rfl ?_
  rw [res]
  generalize hg : gcdL 0 [x, y, z] = G at *
  generalize hs : sgL (lastL [x, y, z]) [x, y, z] = s at *
  generalize lastL [x, y, z] = L at *
  show endS (exSs P (run P T k) ([_, _] ++ [_, _, _]) [some (.int x), some (.int y), some (.int z), none, none, none, none] []) = _
  rw [exSs_append, st1, OutS.next_nx]
  have it : itsD .seq [.lst [.int x, .int y, .int z]] [] = some ([.int x, .int y, .int z], []) := rfl
  by_cases hlt : L < 0
  · rw [if_pos hlt] at e0
    have e0' : -(G : Int) = s := by omega
    simp [it, c1, ln, endG, il, hlt, e0', f1, f2, f3, -idx_lst]
  · rw [if_neg hlt] at e0
    rw [← e0] at f1 f2 f3 ⊢
    simp [it, c1, ln, endG, il, hlt, f1, f2, f3, -idx_lst]
end
end Fw
namespace Fw
open PySem
theorem idx_cell {M : Hh} {i j : Nat} {vs : List D} {v : D} (hi : M[i]? = some (.lst vs)) (h : vs[j]? = some v) : idxD (.ref i) (.int (j : Int)) M = .ok v M := by
  have hj : j < vs.length := by
    rcases Nat.lt_or_ge j vs.length with q | q
    · exact q
    · rw [List.getElem?_eq_none q] at h; cases h
  have e : ixN vs.length (j : Int) = some j := by
    unfold ixN
    rw [if_pos (by omega), if_pos (by omega), Int.toNat_natCast]
  simp only [idxD, seqOf, hi, e, Option.bind_some, h]
section
variable {P : Pg} {T : List Fn} {n d l a o y t f : Nat}
end
end Fw
namespace Fw
open PySem
def digTurn : List S := [
    .expr (.bm false .append (.var 3) [(.bin false .mod (.var 4) (.bin false .pow (.lit (.int (10))) (.lit (.int (6)))))]),
    .asg (.name 4) (.bin false .fdiv (.var 4) (.bin false .pow (.lit (.int (10))) (.lit (.int (6)))))]
def digMore : List S := [
    .asg (.name 5) (.bin false .mod (.bin false .add (.bin false .add (.bin false .mul (.var 5) (.lit (.int (1181783497276652981)))) (.bin false .mul (.var 6) (.var 6))) (.var 1)) (.lit (.int (2305843009213693951)))),
    .expr (.bm false .append (.var 3) [(.bin false .mod (.bin false .fdiv (.bin false .mod (.bin false .mul (.var 5) (.var 5)) (.lit (.int (2305843009213693921)))) (.lit (.int (1048576)))) (.bin false .pow (.lit (.int (10))) (.lit (.int (6)))))])]
def fDigits : Fn := ⟨3, 7, [
  .asg (.name 3) (.lst true []),
  .asg (.name 4) (.bin false .mul (.bi false .abs [(.var 0)]) (.bi false .int [(.cmp .ge (.bi false .abs [(.var 0)]) (.bin false .pow (.lit (.int (10))) (.lit (.int (18)))))])),
  .whl (.and (.cmp .gt (.var 4) (.lit (.int (0)))) (.cmp .lt (.bi false .len [(.var 3)]) (.var 2))) digTurn,
  .asg (.name 5) (.bin false .add (.bin false .add (.bin false .mod (.var 0) (.lit (.int (2305843009213693951)))) (.bin false .mul (.var 1) (.var 1))) (.lit (.int (7)))),
  .loop [6] .rng2 [(.bi false .len [(.var 3)]), (.var 2)] digMore,
  .ret (.var 3)]⟩
theorem app_ints (xs : List Int) (z : Int) (h : xs.length ≤ 1000) : appendD (.ref 0) [.int z] [.lst (xs.map D.int)] = .ok .non [.lst ((xs ++ [z]).map D.int)] := by
  have lp := line_pos (xs.map D.int).length (by rw [List.length_map]; omega)
  have : ([MO.lst (xs.map D.int)])[0]? = some (.lst (xs.map D.int)) := rfl
  simp only [appendD, this, if_pos lp, List.map_append, List.map_cons, List.map_nil]
  rfl
theorem in_dig {xs : List Int} {z : Int} (hb : ∀ z ∈ xs, 0 ≤ z ∧ z < 1000000) (hz : 0 ≤ z ∧ z < 1000000) : ∀ y ∈ xs ++ [z], 0 ≤ y ∧ y < 1000000 := by
  intro y hy
  rcases List.mem_append.mp hy with hy | hy
  · exact hb y hy
  · rw [List.mem_singleton] at hy; exact hy ▸ hz
section
variable {P : Pg} {T : List Fn} {n l : Nat}
theorem dig_while {Φ : Orc} {many : Nat} (hm : many ≤ 500) (s0 s1 s5 s6 : Option D) : ∀ (d : Nat) (xs : List Int) (rest : Int), many - xs.length = d → xs.length ≤ many → (∀ z ∈ xs, 0 ≤ z ∧ z < 1000000) → ∃ (ys : List Int) (rest' : Int), ys.length ≤ many ∧ (∀ z ∈ ys, 0 ≤ z ∧ z < 1000000) ∧
    whileR (evE P Φ (.and (.cmp .gt (.var 4) (.lit (.int (0)))) (.cmp .lt (.bi false .len [(.var 3)]) (.var 2)))) (exSs P Φ digTurn) [s0, s1, some (.int (many : Int)), some (.ref 0), some (.int rest), s5, s6] [.lst (xs.map D.int)] = .ok .nx [s0, s1, some (.int (many : Int)), some (.ref 0), some (.int rest'), s5, s6] [.lst (ys.map D.int)] := by
  intro d
  induction d with
  | zero =>
    intro xs rest hd hl hb
    refine ⟨xs, rest, hl, hb, ?_⟩
    have lo : biD false .len [.ref 0] [.lst (xs.map D.int)] = .ok (.int xs.length) [.lst (xs.map D.int)] := by simp [biD, lenD, lenD1, seqOf]
    have hn : ¬ (xs.length : Int) < (many : Int) := by omega
    rw [whileR_stop (M1 := [.lst (xs.map D.int)])]
    by_cases h : 0 < rest
    · simp [h, lo, hn]
    · simp [h]
  | succ d ih =>
    intro xs rest hd hl hb
    have lo : biD false .len [.ref 0] [.lst (xs.map D.int)] = .ok (.int xs.length) [.lst (xs.map D.int)] := by simp [biD, lenD, lenD1, seqOf]
    have hn : (xs.length : Int) < (many : Int) := by omega
    by_cases h : 0 < rest
    · obtain ⟨ys, rest', h1, h2, e⟩ := ih (xs ++ [rest % 1000000]) (rest / 1000000) (by rw [List.length_append, List.length_singleton]; omega) (by rw [List.length_append, List.length_singleton]; omega) (in_dig hb ⟨by omega, by omega⟩)
      refine ⟨ys, rest', h1, h2, ?_⟩
      have p6 : ∀ M : Hh, binI .pow 10 6 M = .ok (.int 1000000) M := fun M => by rw [binI_pow (by decide)]; rfl
      have d6 : ∀ M : Hh, binI .fdiv rest 1000000 M = .ok (.int (rest / 1000000)) M := fun M => binI_divP (by decide) (pow8000 (by decide))
      have ap := app_ints xs (rest % 1000000) (by omega)
      have bk : bmOk .append (.ref 0) [.lst (xs.map D.int)] = true := rfl
      refine whileR_go (M1 := [.lst (xs.map D.int)]) (M' := [.lst ((xs ++ [rest % 1000000]).map D.int)]) (σ' := [s0, s1, some (.int (many : Int)), some (.ref 0), some (.int (rest / 1000000)), s5, s6]) (by simp [h, lo, hn]) ?_ e (by intro z; cases z)
      generalize (xs ++ [rest % 1000000]).map D.int = L at *
      simp [digTurn, p6, d6, binI_modP, bk, bmD, ap]
    · refine ⟨xs, rest, hl, hb, ?_⟩
      rw [whileR_stop (M1 := [.lst (xs.map D.int)]) (by simp [h])]
theorem digits_ok (h : T[n]? = some fDigits) {k : Nat} (hk : 1 ≤ k) (c : Int) {q many : Nat} (hq : q ≤ 1000) (hm : many ≤ 100) : ∃ zs : List Int, zs.length = many ∧ (∀ z ∈ zs, 0 ≤ z ∧ z < 1000000) ∧ Ev P T k n [.int c, .int (q : Int), .int (many : Int)] (.lst (zs.map D.int)) := by
  obtain ⟨k, rfl⟩ : ∃ j, k = j + 1 := ⟨k - 1, by omega⟩
  have p18 : ∀ M : Hh, binI .pow 10 18 M = .ok (.int 1000000000000000000) M := fun M => by rw [binI_pow (by decide)]; rfl
  have p6 : ∀ M : Hh, binI .pow 10 6 M = .ok (.int 1000000) M := fun M => by rw [binI_pow (by decide)]; rfl
  have ab : ∀ (M : Hh), biD false .abs [.int c] M = .ok (.int c.natAbs) M := fun M => by simp only [biD, absD, abs_nat]
  obtain ⟨rest, hr⟩ : ∃ rest : Int, exSs P (run P T k) [.asg (.name 3) (.lst true []),
  .asg (.name 4) (.bin false .mul (.bi false .abs [(.var 0)]) (.bi false .int [(.cmp .ge (.bi false .abs [(.var 0)]) (.bin false .pow (.lit (.int (10))) (.lit (.int (18)))))]))] [some (.int c), some (.int (q : Int)), some (.int (many : Int)), none, none, none, none] [] = .ok .nx [some (.int c), some (.int (q : Int)), some (.int (many : Int)), some (.ref 0), some (.int rest), none, none] [.lst []] := by
    have ib : ∀ (b : Bool) (M : Hh), biD false .int [.bl b] M = .ok (.int (if b = true then 1 else 0)) M := fun _ _ => rfl
    have m1 : MulOk (c.natAbs : Int) 1 := mulOk_r (by decide)
    have m0 : MulOk (c.natAbs : Int) 0 := mulOk_r (by decide)
    by_cases h18 : (1000000000000000000 : Int) ≤ (c.natAbs : Int)
    · exact ⟨c.natAbs, by
        generalize (c.natAbs : Int) = A at *
        simp [ab, p18, h18, ib, binI_mul, m1]⟩
    · exact ⟨0, by
        generalize (c.natAbs : Int) = A at *
        simp [ab, p18, h18, ib, binI_mul, m0]⟩
  obtain ⟨ys, rest', hy, hyb, ew⟩ := dig_while (P := P) (Φ := run P T k) (many := many) (by omega) (some (.int c)) (some (.int (q : Int))) none none _ [] rest rfl (by simp) (by simp)
  obtain ⟨σ', M', e, xs, s5, s6, rfl, rfl, hl, hb, _⟩ := forL_all (bind := bindTg [6]) (b := exSs P (run P T k) digMore) (g := [])
    (fun r σ M => ∃ (xs : List Int) (n5 : Int) (s6 : Option D), σ = [some (.int c), some (.int (q : Int)), some (.int (many : Int)), some (.ref 0), some (.int rest'), some (.int n5), s6] ∧ M = [.lst (xs.map D.int)] ∧ xs.length + r.length = many ∧ (∀ z ∈ xs, 0 ≤ z ∧ z < 1000000) ∧ ∀ x ∈ r, ∃ i : Nat, i < 1000 ∧ x = .int (i : Int))
    (fun _ _ _ _ => by simp)
    (by
      rintro x r σ M ⟨xs, n5, s6, rfl, rfl, hl, hb, hx⟩
      obtain ⟨i, hi, rfl⟩ := hx x (by simp)
      rw [List.length_cons] at hl
      have m1 : MulOk n5 1181783497276652981 := mulOk_r (by decide)
      have m2 : MulOk (i : Int) (i : Int) := mulOk_r (by omega)
      obtain ⟨u, hu⟩ : ∃ u : Int, (n5 * 1181783497276652981 + (i : Int) * (i : Int) + (q : Int)) % 2305843009213693951 = u := ⟨_, rfl⟩
      have m3 : MulOk u u := mulOk_l (by omega)
      obtain ⟨w, hw⟩ : ∃ w : Int, u * u % 2305843009213693921 = w := ⟨_, rfl⟩
      have d20 : ∀ M : Hh, binI .fdiv w 1048576 M = .ok (.int (w / 1048576)) M := fun M => binI_divP (by decide) (pow8000 (by decide))
      have ap := app_ints xs (w / 1048576 % 1000000) (by omega)
      have bk : bmOk .append (.ref 0) [.lst (xs.map D.int)] = true := rfl
      refine ⟨_, [some (.int c), some (.int (q : Int)), some (.int (many : Int)), some (.ref 0), some (.int rest'), some (.int u), some (.int (i : Int))], [.lst ((xs ++ [w / 1048576 % 1000000]).map D.int)], rfl, .inl ?_, xs ++ [w / 1048576 % 1000000], u, _, rfl, rfl, by simp; omega, in_dig hb ⟨by omega, by omega⟩, fun y hy => hx y (List.mem_cons_of_mem _ hy)⟩
      generalize (xs ++ [w / 1048576 % 1000000]).map D.int = L at *
      simp [digMore, bindTg, binI_mul, m1, m2, binI_modP, hu, m3, hw, d20, p6, bk, bmD, ap])
    ((rg ys.length many).map fun i : Nat => D.int (i : Int)) [some (.int c), some (.int (q : Int)), some (.int (many : Int)), some (.ref 0), some (.int rest'), some (.int (c % 2305843009213693951 + (q : Int) * (q : Int) + 7)), none] [.lst (ys.map D.int)]
    ⟨ys, _, none, rfl, rfl, by rw [List.length_map]; unfold rg; simp; omega, hyb, by
      intro x hx
      obtain ⟨i, hi, rfl⟩ := List.mem_map.mp hx
      have := mem_rg hi
      exact ⟨i, by omega, rfl⟩⟩
  refine ⟨xs, by simpa using hl, hb, Ev.of' h rfl (d := .ref 0) (M' := [.lst (xs.map D.int)]) ?_ ?_ (noRefL_ints xs)⟩
  · have m2 : MulOk (q : Int) (q : Int) := mulOk_r (by omega)
    have lo : biD false .len [.ref 0] [.lst (ys.map D.int)] = .ok (.int ys.length) [.lst (ys.map D.int)] := by simp [biD, lenD, lenD1, seqOf]
    have it : ∀ M, itsD .rng2 [.int (ys.length : Int), .int (many : Int)] M = some ((rg ys.length many).map fun i : Nat => D.int (i : Int), []) := its_rg (by omega) (by omega)
    show endS (exSs P (run P T k) ([_, _] ++ (_ :: _ :: _ :: [_])) [some (.int c), some (.int (q : Int)), some (.int (many : Int)), none, none, none, none] []) = _
    simp only [List.map_nil] at ew
    rw [exSs_append, hr, OutS.next_nx, ex_cons, ex_whl, ew, OutS.next_nx]
    have st : exS P (run P T k) (.asg (.name 5) (.bin false .add (.bin false .add (.bin false .mod (.var 0) (.lit (.int (2305843009213693951)))) (.bin false .mul (.var 1) (.var 1))) (.lit (.int (7))))) [some (.int c), some (.int (q : Int)), some (.int (many : Int)), some (.ref 0), some (.int rest'), none, none] [.lst (ys.map D.int)] = .ok .nx [some (.int c), some (.int (q : Int)), some (.int (many : Int)), some (.ref 0), some (.int rest'), some (.int (c % 2305843009213693951 + (q : Int) * (q : Int) + 7)), none] [.lst (ys.map D.int)] := by
      simp [binI_modP, binI_mul, m2]
    rw [ex_cons, st, OutS.next_nx, ex_cons, ex_loop]
    simp only [ev_cons, ev_bi, ev_var, ev_nil, List.getElem?_cons_succ, List.getElem?_cons_zero, Out.bind_ok, Out.st_ok, lo, it]
    rw [e]
    simp
  · show D.lst ((xs.map D.int).map (snap _ 7)) = _
    rw [snap_noRefL 7 _ (noRefL_ints xs)]
end
end Fw
namespace Fw
open PySem
abbrev Deed := Bool × Nat × Nat
abbrev St := List Pt × List Pt
def sLn : D := .str [108, 105, 110, 101]
def sPeg : D := .str [112, 101, 103]
def wordD (b : Bool) : D := if b then sPeg else sLn
def deedD (d : Deed) : D := .tup [wordD d.1, .int (d.2.1 : Int), .int (d.2.2 : Int)]
def src (b : Bool) (s : St) : List Pt := if b then s.2 else s.1
def dcr (s : St) (d : Deed) : Pt := crs (gP (src d.1 s) d.2.1) (gP (src d.1 s) d.2.2)
def dnew (s : St) (d : Deed) : Pt := lowP (dcr s d)
def putS (s : St) (b : Bool) (x : Pt) : St := if b then (s.1 ++ [x], s.2) else (s.1, s.2 ++ [x])
structure OkD (s : St) (d : Deed) : Prop where
  i : d.2.1 < (src d.1 s).length
  j : d.2.2 < (src d.1 s).length
  nz : ¬ Zer (dcr s d)
  bd : BdP 3000 (dnew s d)
inductive Walk : List Deed → St → St → Prop
  | nil {s : St} : Walk [] s s
  | cons {s t : St} {d : Deed} {r : List Deed} (h : OkD s d) (w : Walk r (putS s d.1 (dnew s d)) t) : Walk (d :: r) s t
theorem Walk.snoc {a : List Deed} {s t : St} {d : Deed} (w : Walk a s t) (h : OkD t d) : Walk (a ++ [d]) s (putS t d.1 (dnew t d)) := by
  induction w with
  | nil => exact .cons h .nil
  | cons h1 _ ih => exact .cons h1 (ih h)
def GoodS (s : St) : Prop := ∀ b, ∀ p ∈ src b s, LowP p ∧ BdP 3000 p
theorem gPmem {ps : List Pt} {i : Nat} (h : i < ps.length) : gP ps i ∈ ps := by rw [gP_eq h]; exact List.getElem_mem h
theorem GoodS.put {s : St} (g : GoodS s) {b : Bool} {x : Pt} (hx : LowP x ∧ BdP 3000 x) : GoodS (putS s b x) := by
  intro c p hp
  cases b <;> cases c <;> simp only [putS, src, if_true, if_false, Bool.false_eq_true] at hp
  · exact g false p hp
  · rcases List.mem_append.mp hp with hp | hp
    · exact g true p hp
    · rw [List.mem_singleton] at hp; exact hp ▸ hx
  · rcases List.mem_append.mp hp with hp | hp
    · exact g false p hp
    · rw [List.mem_singleton] at hp; exact hp ▸ hx
  · exact g true p hp
theorem dnew_low {s : St} {d : Deed} (h : OkD s d) : LowP (dnew s d) := (lowP_spec h.nz).choose_spec.2.2.2.2
theorem GoodS.go {s : St} {d : Deed} (g : GoodS s) (h : OkD s d) : GoodS (putS s d.1 (dnew s d)) := g.put ⟨dnew_low h, h.bd⟩
theorem putS_len (s : St) (b : Bool) (x : Pt) : (putS s b x).1.length + (putS s b x).2.length = s.1.length + s.2.length + 1 := by
  cases b <;> simp [putS] <;> omega
section
variable {P : Pg} {T : List Fn} {n d l w : Nat}
def cells (s : St) : Hh := [.lst (s.1.map pt), .lst (s.2.map pt)]
theorem gP_get {ps : List Pt} {i : Nat} (h : i < ps.length) : (ps.map pt)[i]? = some (pt (gP ps i)) := by
  rw [List.getElem?_map, List.getElem?_eq_getElem h, gP_eq h]
  rfl
theorem dnew_bd {s : St} (g : GoodS s) {b : Bool} {i : Nat} (hi : i < (src b s).length) : BdP 3000 (gP (src b s) i) := (g b _ (gPmem hi)).2
end
end Fw
namespace Fw
open PySem
def fCrossN (l : Nat) : Fn := ⟨2, 3, [
  .asg (.name 2) (.lst false [(.bin false .sub (.bin false .mul (.idx (.var 0) (.lit (.int (1)))) (.idx (.var 1) (.lit (.int (2))))) (.bin false .mul (.idx (.var 0) (.lit (.int (2)))) (.idx (.var 1) (.lit (.int (1)))))), (.bin false .sub (.bin false .mul (.idx (.var 0) (.lit (.int (2)))) (.idx (.var 1) (.lit (.int (0))))) (.bin false .mul (.idx (.var 0) (.lit (.int (0)))) (.idx (.var 1) (.lit (.int (2)))))), (.bin false .sub (.bin false .mul (.idx (.var 0) (.lit (.int (0)))) (.idx (.var 1) (.lit (.int (1))))) (.bin false .mul (.idx (.var 0) (.lit (.int (1)))) (.idx (.var 1) (.lit (.int (0))))))]),
  .ite (.cmp .eq (.var 2) (.lst false [(.lit (.int (0))), (.lit (.int (0))), (.lit (.int (0)))])) [
    .ret (.lit .non)] [],
  .ret (.call true l [(.idx (.var 2) (.lit (.int (0)))), (.idx (.var 2) (.lit (.int (1)))), (.idx (.var 2) (.lit (.int (2))))])]⟩
def pIn : List S := [
      .asg (.name 10) (.bin false .mod (.idx (.var 7) (.lit (.int (1)))) (.bi false .len [(.var 9)])),
      .asg (.name 11) (.bin false .mod (.idx (.var 7) (.lit (.int (2)))) (.bi false .len [(.var 9)]))]
def pTry (g : Nat) : List S := [
      .asg (.name 12) (.call true g [(.idx (.var 9) (.var 10)), (.idx (.var 9) (.var 11))]),
      .ite (.and (.cmp .isnot (.var 12) (.lit .non)) (.cmp .lt (.bi false .maxl [(.comp false [13] .seq [(.var 12)] none (.bi false .abs [(.var 13)]))]) (.bin false .pow (.lit (.int (10))) (.lit (.int (60)))))) [
        .expr (.bm false .append (.var 5) [(.tup [(.var 8), (.var 10), (.var 11)])]),
        .expr (.bm false .append (.idx (.lst false [(.var 4), (.var 3)]) (.bi false .int [(.cmp .eq (.var 8) (.lit (.str [112, 101, 103])))])) [(.var 12)])] []]
def pHead (d : Nat) : List S := [
    .asg (.name 7) (.call true d [(.idx (.var 1) (.var 6)), (.bin false .add (.var 2) (.var 6)), (.lit (.int (3)))]),
    .asg (.name 8) (.idx (.lst false [(.lit (.str [108, 105, 110, 101])), (.lit (.str [108, 105, 110, 101])), (.lit (.str [108, 105, 110, 101])), (.lit (.str [112, 101, 103])), (.lit (.str [112, 101, 103]))]) (.bin false .mod (.idx (.var 7) (.lit (.int (0)))) (.lit (.int (5))))),
    .asg (.name 9) (.idx (.lst false [(.var 3), (.var 4)]) (.bi false .int [(.cmp .eq (.var 8) (.lit (.str [112, 101, 103])))]))]
def pTail (g : Nat) : S := .ite (.cmp .gt (.bi false .len [(.var 9)]) (.lit (.int (1)))) (pIn ++ pTry g) []
def fPlan (d g : Nat) : Fn := ⟨3, 14, [
  .asg (.name 3) (.bi true .list [(.var 0)]),
  .asg (.name 4) (.lst true []),
  .asg (.name 5) (.lst true []),
  .loop [6] .rng1 [(.bi false .len [(.var 1)])] (pHead d ++ [pTail g]),
  .ret (.lst false [(.var 5), (.var 3), (.var 4)])]⟩
theorem idx_ints {zs : List Int} {i : Nat} (h : i < zs.length) (M : Hh) : idxD (.lst (zs.map D.int)) (.int (i : Int)) M = .ok (.int (zs.getD i 0)) M :=
  idx_at (by rw [List.getElem?_map, List.getElem?_eq_getElem h, List.getD_eq_getElem?_getD, List.getElem?_eq_getElem h]; rfl) M
section
variable {P : Pg} {T : List Fn} {n l : Nat}
theorem crossN_st {Φ : Orc} {p : Nat} {a b : Pt} (ba : BdP p a) (bb : BdP p b) (hp : p ≤ 3000) : exS P Φ (.asg (.name 2) (.lst false [(.bin false .sub (.bin false .mul (.idx (.var 0) (.lit (.int (1)))) (.idx (.var 1) (.lit (.int (2))))) (.bin false .mul (.idx (.var 0) (.lit (.int (2)))) (.idx (.var 1) (.lit (.int (1)))))), (.bin false .sub (.bin false .mul (.idx (.var 0) (.lit (.int (2)))) (.idx (.var 1) (.lit (.int (0))))) (.bin false .mul (.idx (.var 0) (.lit (.int (0)))) (.idx (.var 1) (.lit (.int (2)))))), (.bin false .sub (.bin false .mul (.idx (.var 0) (.lit (.int (0)))) (.idx (.var 1) (.lit (.int (1))))) (.bin false .mul (.idx (.var 0) (.lit (.int (1)))) (.idx (.var 1) (.lit (.int (0))))))])) [some (pt a), some (pt b), none] [] = .ok .nx [some (pt a), some (pt b), some (.lst [.int (crs a b).1, .int (crs a b).2.1, .int (crs a b).2.2])] [] := by
  have m1 : MulOk a.2.1 b.2.2 := mulOk_of ba.2.1 bb.2.2 (by omega)
  have m2 : MulOk a.2.2 b.2.1 := mulOk_of ba.2.2 bb.2.1 (by omega)
  have m3 : MulOk a.2.2 b.1 := mulOk_of ba.2.2 bb.1 (by omega)
  have m4 : MulOk a.1 b.2.2 := mulOk_of ba.1 bb.2.2 (by omega)
  have m5 : MulOk a.1 b.2.1 := mulOk_of ba.1 bb.2.1 (by omega)
  have m6 : MulOk a.2.1 b.1 := mulOk_of ba.2.1 bb.1 (by omega)
  simp [pt, binI_mul, m1, m2, m3, m4, m5, m6, crs]
theorem crossN_ok (hl : T[l]? = some fLow3) (h : T[n]? = some (fCrossN l)) {k : Nat} (hk : 2 ≤ k) {p : Nat} {a b : Pt} (ba : BdP p a) (bb : BdP p b) (hp : p ≤ 3000) (nz : ¬ Zer (crs a b)) : Ev P T k n [pt a, pt b] (pt (lowP (crs a b))) := by
  obtain ⟨k, rfl⟩ : ∃ j, k = j + 1 := ⟨k - 1, by omega⟩
  have st := crossN_st (P := P) (Φ := run P T k) ba bb hp
  have bc := crs_bd ba bb
  generalize crs a b = c at *
  obtain ⟨x, y, z⟩ := c
  dsimp only at st
  have lw := (low3_ok (P := P) hl (k := k) (by omega) (x := x) (y := y) (z := z) nz (bc.1.mono (by omega)) (bc.2.1.mono (by omega)) (bc.2.2.mono (by omega))).own
  refine Ev.of h rfl rfl ?_
  show endS (exSs P (run P T k) (_ :: _) [some (pt a), some (pt b), none] []) = _
  rw [ex_cons, st, OutS.next_nx]
  have q : ∀ M, eqM M (.lst [.int x, .int y, .int z]) (.lst [.int 0, .int 0, .int 0]) = some false := fun M => by
    rw [eqM_lst3, decide_eq_false (p := x = 0 ∧ y = 0 ∧ z = 0) nz]
  have g0 : ∀ M, idxD (.lst [.int x, .int y, .int z]) (.int 0) M = .ok (.int x) M := fun _ => rfl
  have g1 : ∀ M, idxD (.lst [.int x, .int y, .int z]) (.int 1) M = .ok (.int y) M := fun _ => rfl
  have g2 : ∀ M, idxD (.lst [.int x, .int y, .int z]) (.int 2) M = .ok (.int z) M := fun _ => rfl
  generalize pt (lowP (x, y, z)) = R at *
  generalize D.lst [.int x, .int y, .int z] = L at *
  simp [q, lw, g0, g1, g2]
theorem crossN_no (h : T[n]? = some (fCrossN l)) {k : Nat} (hk : 2 ≤ k) {p : Nat} {a b : Pt} (ba : BdP p a) (bb : BdP p b) (hp : p ≤ 3000) (nz : Zer (crs a b)) : Ev P T k n [pt a, pt b] .non := by
  obtain ⟨k, rfl⟩ : ∃ j, k = j + 1 := ⟨k - 1, by omega⟩
  have st := crossN_st (P := P) (Φ := run P T k) ba bb hp
  generalize crs a b = c at *
  obtain ⟨x, y, z⟩ := c
  dsimp only at st
  refine Ev.of h rfl rfl ?_
  show endS (exSs P (run P T k) (_ :: _) [some (pt a), some (pt b), none] []) = _
  rw [ex_cons, st, OutS.next_nx]
  have q : ∀ M, eqM M (.lst [.int x, .int y, .int z]) (.lst [.int 0, .int 0, .int 0]) = some true := fun M => by
    rw [eqM_lst3, decide_eq_true (p := x = 0 ∧ y = 0 ∧ z = 0) nz]
  simp [q]
end
end Fw
namespace Fw
open PySem
def cell3 (s : St) (pl : List Deed) : Hh := [.lst (s.1.map pt), .lst (s.2.map pt), .lst (pl.map deedD)]
theorem maxI_ge : ∀ (xs : List Int) (a : Int), a ≤ xs.foldl max a ∧ ∀ x ∈ xs, x ≤ xs.foldl max a
  | [], a => ⟨Int.le_refl a, fun _ h => by cases h⟩
  | x :: xs, a => by
    obtain ⟨h1, h2⟩ := maxI_ge xs (max a x)
    have e1 : a ≤ max a x := Int.le_max_left a x
    have e2 : x ≤ max a x := Int.le_max_right a x
    refine ⟨Int.le_trans e1 h1, fun y hy => ?_⟩
    rcases List.mem_cons.mp hy with rfl | hy
    · exact Int.le_trans e2 h1
    · exact h2 y hy
section
variable {P : Pg} {T : List Fn} {n l g d : Nat}
theorem plan_try {k : Nat} {s : St} (gs : GoodS s) {pl : List Deed} (h1 : s.1.length + s.2.length ≤ 500) (h2 : pl.length ≤ 500) {b : Bool} {i j : Nat} (hi : i < (src b s).length) (hj : j < (src b s).length)
    (hn : Zer (dcr s (b, i, j)) → ∀ M, ownD (run P T k g [pt (gP (src b s) i), pt (gP (src b s) j)] []) M = .ok .non M)
    (hy : ¬ Zer (dcr s (b, i, j)) → ∀ M, ownD (run P T k g [pt (gP (src b s) i), pt (gP (src b s) j)] []) M = .ok (pt (dnew s (b, i, j))) M) (s0 s1 s2 s6 s7 s12 s13 : Option D) :
    ∃ (s' : St) (pl' : List Deed) (s12' : Option D), ((s' = s ∧ pl' = pl) ∨ (OkD s (b, i, j) ∧ s' = putS s b (dnew s (b, i, j)) ∧ pl' = pl ++ [(b, i, j)])) ∧
      exSs P (run P T k) (pTry g) [s0, s1, s2, some (.ref 0), some (.ref 1), some (.ref 2), s6, s7, some (wordD b), some (.ref (if b then 1 else 0)), some (.int (i : Int)), some (.int (j : Int)), s12, s13] (cell3 s pl)
        = .ok .nx [s0, s1, s2, some (.ref 0), some (.ref 1), some (.ref 2), s6, s7, some (wordD b), some (.ref (if b then 1 else 0)), some (.int (i : Int)), some (.int (j : Int)), s12', s13] (cell3 s' pl') := by
  have p60 : ∀ M : Hh, binI .pow 10 60 M = .ok (.int 1000000000000000000000000000000000000000000000000000000000000) M := fun M => by rw [binI_pow (by decide)]; rfl
  have hcell : (cell3 s pl)[if b then 1 else 0]? = some (.lst ((src b s).map pt)) := by cases b <;> rfl
  have ii : idxD (.ref (if b then 1 else 0)) (.int (i : Int)) (cell3 s pl) = .ok (pt (gP (src b s) i)) (cell3 s pl) := idx_cell hcell (gP_get hi)
  have jj : idxD (.ref (if b then 1 else 0)) (.int (j : Int)) (cell3 s pl) = .ok (pt (gP (src b s) j)) (cell3 s pl) := idx_cell hcell (gP_get hj)
  have nr : ∀ p : Pt, noRef (pt p) = true := fun _ => rfl
  by_cases z : Zer (dcr s (b, i, j))
  · refine ⟨s, pl, some .non, .inl ⟨rfl, rfl⟩, ?_⟩
    have hn := hn z
    generalize (if b then 1 else 0) = rb at *
    generalize gP (src b s) i = A at *
    generalize gP (src b s) j = B at *
    generalize cell3 s pl = M0 at *
    generalize wordD b = W at *
    simp [pTry, ii, jj, nr, hn, cmpD, isNon, -ev_comp0]
  · have hy := hy z
    have nw : noRef (pt (dnew s (b, i, j))) = true := rfl
    obtain ⟨X, hX⟩ : ∃ X : Pt, dnew s (b, i, j) = X := ⟨_, rfl⟩
    have ok : BdP 3000 X → OkD s (b, i, j) := fun h => ⟨hi, hj, z, hX ▸ h⟩
    rw [hX] at hy ⊢
    have st : exS P (run P T k) (.asg (.name 12) (.call true g [(.idx (.var 9) (.var 10)), (.idx (.var 9) (.var 11))])) [s0, s1, s2, some (.ref 0), some (.ref 1), some (.ref 2), s6, s7, some (wordD b), some (.ref (if b then 1 else 0)), some (.int (i : Int)), some (.int (j : Int)), s12, s13] (cell3 s pl)
        = .ok .nx [s0, s1, s2, some (.ref 0), some (.ref 1), some (.ref 2), s6, s7, some (wordD b), some (.ref (if b then 1 else 0)), some (.int (i : Int)), some (.int (j : Int)), some (pt X), s13] (cell3 s pl) := by
      generalize (if b then 1 else 0) = rb at *
      generalize gP (src b s) i = A at *
      generalize gP (src b s) j = B at *
      generalize cell3 s pl = M0 at *
      generalize wordD b = W at *
      generalize hp : pt X = XD at *
      simp [ii, jj, nr, hy]
    have cm : ∀ (σ : Sl) (M : Hh), σ.length = 14 → σ[12]? = some (some (pt X)) → evE P (run P T k) (.comp false [13] .seq [(.var 12)] none (.bi false .abs [(.var 13)])) σ M = .ok (.lst [.int (X.1.natAbs : Int), .int (X.2.1.natAbs : Int), .int (X.2.2.natAbs : Int)]) M := by
      intro σ M hl hs
      have it : itsD .seq [pt X] M = some ([.int X.1, .int X.2.1, .int X.2.2], []) := rfl
      have l3 : ¬ line < ([D.int X.1, .int X.2.1, .int X.2.2]).length := lt3
      have ab : ∀ (z : Int) (M : Hh), biD false .abs [.int z] M = .ok (.int (z.natAbs : Int)) M := fun z M => by simp only [biD, absD, abs_nat]
      have gt : ∀ v : Option D, (σ.set 13 v)[13]? = some v := fun v => List.getElem?_set_self (by omega)
      rw [ev_comp0]
      simp only [ev_cons, ev_var, ev_nil, hs, Out.bind_ok, it, if_neg l3]
      simp [compL, bindTg, endG, gt, ab]
    obtain ⟨mx, hm⟩ : ∃ mx : Int, maxI [(X.1.natAbs : Int), (X.2.1.natAbs : Int), (X.2.2.natAbs : Int)] = mx := ⟨_, rfl⟩
    have hm2 : (X.1.natAbs : Int) ≤ mx ∧ (X.2.1.natAbs : Int) ≤ mx ∧ (X.2.2.natAbs : Int) ≤ mx := by
      obtain ⟨a1, a2⟩ := maxI_ge [(X.2.1.natAbs : Int), (X.2.2.natAbs : Int)] (X.1.natAbs : Int)
      have e : ([(X.2.1.natAbs : Int), (X.2.2.natAbs : Int)]).foldl max (X.1.natAbs : Int) = mx := hm
      rw [e] at a1 a2
      exact ⟨a1, a2 _ (by simp), a2 _ (by simp)⟩
    have ml : ∀ M, biD false .maxl [.lst [.int (X.1.natAbs : Int), .int (X.2.1.natAbs : Int), .int (X.2.2.natAbs : Int)]] M = .ok (.int mx) M := fun M => by
      have e : (lstOf M (.lst [.int (X.1.natAbs : Int), .int (X.2.1.natAbs : Int), .int (X.2.2.natAbs : Int)])).bind intsOf = some [(X.1.natAbs : Int), (X.2.1.natAbs : Int), (X.2.2.natAbs : Int)] := rfl
      simp only [biD, maxlD, e, if_neg (List.cons_ne_nil _ _), hm]
    have cc : ∀ (σ : Sl) (M : Hh), σ.length = 14 → σ[12]? = some (some (pt X)) → evE P (run P T k) (.and (.cmp .isnot (.var 12) (.lit .non)) (.cmp .lt (.bi false .maxl [(.comp false [13] .seq [(.var 12)] none (.bi false .abs [(.var 13)]))]) (.bin false .pow (.lit (.int (10))) (.lit (.int (60)))))) σ M = .ok (.bl (decide (mx < 1000000000000000000000000000000000000000000000000000000000000))) M := by
      intro σ M hl hs
      have c1 := cm σ M hl hs
      clear cm
      have iN : cmpD .isnot (pt X) .non M = some true := rfl
      generalize (1000000000000000000000000000000000000000000000000000000000000 : Int) = big at *
      generalize D.lst [.int (X.1.natAbs : Int), .int (X.2.1.natAbs : Int), .int (X.2.2.natAbs : Int)] = L at *
      generalize pt X = XD at *
      simp only [ev_and, ev_cmp, ev_var, ev_lit, hs, Out.bind_ok, iN, outB_some, ifB_true, ev_bi, ev_cons, ev_nil, c1, ml, ev_bin, bin_int, p60, cmp_lt]
    unfold pTry
    rw [ex_cons, st, OutS.next_nx, ex_cons, ex_ite, cc _ _ rfl rfl]
    simp only [Out.st_ok]
    by_cases hb : mx < 1000000000000000000000000000000000000000000000000000000000000
    · have bX0 : BdP 210 X := by
        have b1 : X.1.natAbs < 2 ^ 210 := Nat.lt_of_lt_of_le (show X.1.natAbs < 1000000000000000000000000000000000000000000000000000000000000 by omega) (by decide)
        have b2 : X.2.1.natAbs < 2 ^ 210 := Nat.lt_of_lt_of_le (show X.2.1.natAbs < 1000000000000000000000000000000000000000000000000000000000000 by omega) (by decide)
        have b3 : X.2.2.natAbs < 2 ^ 210 := Nat.lt_of_lt_of_le (show X.2.2.natAbs < 1000000000000000000000000000000000000000000000000000000000000 by omega) (by decide)
        exact ⟨b1, b2, b3⟩
      have bX : BdP 3000 X := ⟨bX0.1.mono (by decide), bX0.2.1.mono (by decide), bX0.2.2.mono (by decide)⟩
      refine ⟨putS s b X, pl ++ [(b, i, j)], some (pt X), .inr ⟨ok bX, rfl, rfl⟩, ?_⟩
      rw [decide_eq_true hb]
      simp only [ifB_true]
      have lp := fun (N : Nat) (h : N ≤ 500) => line_pos N (by omega)
      have a1 : appendD (.ref 2) [.tup [wordD b, .int (i : Int), .int (j : Int)]] (cell3 s pl) = .ok .non (cell3 s (pl ++ [(b, i, j)])) := by
        have : (cell3 s pl)[2]? = some (.lst (pl.map deedD)) := rfl
        simp only [appendD, this, if_pos (lp (pl.map deedD).length (by rw [List.length_map]; exact h2))]
        simp [cell3, deedD]
      have a2 : appendD (.ref (if b then 0 else 1)) [pt X] (cell3 s (pl ++ [(b, i, j)])) = .ok .non (cell3 (putS s b X) (pl ++ [(b, i, j)])) := by
        cases b with
        | false =>
          have : (cell3 s (pl ++ [(false, i, j)]))[1]? = some (.lst (s.2.map pt)) := rfl
          simp only [appendD, Bool.false_eq_true, if_false, this, if_pos (lp (s.2.map pt).length (by rw [List.length_map]; omega))]
          simp [cell3, putS]
        | true =>
          have : (cell3 s (pl ++ [(true, i, j)]))[0]? = some (.lst (s.1.map pt)) := rfl
          simp only [appendD, if_true, this, if_pos (lp (s.1.map pt).length (by rw [List.length_map]; omega))]
          simp [cell3, putS]
      have k1 : bmOk .append (.ref 2) (cell3 s pl) = true := rfl
      have k2 : bmOk .append (.ref (if b then 0 else 1)) (cell3 s (pl ++ [(b, i, j)])) = true := by cases b <;> rfl
      have pick : ∀ M, idxD (.lst [.ref 1, .ref 0]) (.int (if b then 1 else 0)) M = .ok (.ref (if b then 0 else 1)) M := fun M => by cases b <;> rfl
      have q : ∀ M, eqM M (wordD b) (.str [112, 101, 103]) = some b := fun _ => by cases b <;> rfl
      have ib : ∀ M, biD false .int [.bl b] M = .ok (.int (if b then 1 else 0)) M := fun _ => rfl
      generalize cell3 (putS s b X) (pl ++ [(b, i, j)]) = M2 at *
      generalize cell3 s (pl ++ [(b, i, j)]) = M1 at *
      generalize cell3 s pl = M0 at *
      generalize pt X = XD at *
      generalize wordD b = W at *
      generalize (if b then (0 : Nat) else 1) = r1 at *
      generalize (if b then (1 : Nat) else 0) = r2 at *
      generalize (if b then (1 : Int) else 0) = r3 at *
      simp [k1, k2, bmD, a1, a2, pick, q, ib, -idx_lst]
    · refine ⟨s, pl, some (pt X), .inl ⟨rfl, rfl⟩, ?_⟩
      rw [decide_eq_false hb]
      simp
theorem plan_head {k dg at_ : Nat} (hd : T[dg]? = some fDigits) (hk : 1 ≤ k) {cs : List Int} {i : Nat} (hi : i < cs.length) (ha : at_ + i ≤ 1000) {s : St} {pl : List Deed} (s0 s7 s8 s9 s10 s11 s12 s13 : Option D) :
    ∃ (zs : List Int) (b : Bool), zs.length = 3 ∧ exSs P (run P T k) (pHead dg) [s0, some (.lst (cs.map D.int)), some (.int (at_ : Int)), some (.ref 0), some (.ref 1), some (.ref 2), some (rj i), s7, s8, s9, s10, s11, s12, s13] (cell3 s pl)
      = .ok .nx [s0, some (.lst (cs.map D.int)), some (.int (at_ : Int)), some (.ref 0), some (.ref 1), some (.ref 2), some (rj i), some (.lst (zs.map D.int)), some (wordD b), some (.ref (if b then 1 else 0)), s10, s11, s12, s13] (cell3 s pl) := by
  obtain ⟨zs, hz, hb, ez⟩ := digits_ok (P := P) hd (k := k) hk (cs.getD i 0) (q := at_ + i) (many := 3) ha (by decide)
  have ez := ez.own
  have z0 := idx_ints (zs := zs) (i := 0) (by omega)
  have rjn : rj i = D.int (i : Int) := by unfold rj; simp
  have ii := idx_ints (zs := cs) hi
  have ea : ((at_ + i : Nat) : Int) = (at_ : Int) + (i : Int) := by omega
  rw [ea] at ez
  have hd5 : ∃ b : Bool, ∀ M, idxD (.lst [.str [108, 105, 110, 101], .str [108, 105, 110, 101], .str [108, 105, 110, 101], .str [112, 101, 103], .str [112, 101, 103]]) (.int (zs.getD 0 0 % 5)) M = .ok (wordD b) M := by
    generalize zs.getD 0 0 = d
    have : d % 5 = 0 ∨ d % 5 = 1 ∨ d % 5 = 2 ∨ d % 5 = 3 ∨ d % 5 = 4 := by omega
    rcases this with e | e | e | e | e <;> rw [e]
    · exact ⟨false, fun _ => rfl⟩
    · exact ⟨false, fun _ => rfl⟩
    · exact ⟨false, fun _ => rfl⟩
    · exact ⟨true, fun _ => rfl⟩
    · exact ⟨true, fun _ => rfl⟩
  obtain ⟨b, hw⟩ := hd5
  refine ⟨zs, b, hz, ?_⟩
  have m5 : ∀ M : Hh, binI .mod (zs.getD 0 0) 5 M = .ok (.int (zs.getD 0 0 % 5)) M := fun M => binI_modP (by decide)
  have q : ∀ M, eqM M (wordD b) (.str [112, 101, 103]) = some b := fun _ => by cases b <;> rfl
  have ib : ∀ M, biD false .int [.bl b] M = .ok (.int (if b then 1 else 0)) M := fun _ => rfl
  have pick : ∀ M, idxD (.lst [.ref 0, .ref 1]) (.int (if b then 1 else 0)) M = .ok (.ref (if b then 1 else 0)) M := fun M => by cases b <;> rfl
  rw [rjn]
  generalize cs.getD i 0 = ci at *
  generalize zs.getD 0 0 = z0v at *
  generalize z0v % 5 = z5 at *
  have e3 : ((3 : Nat) : Int) = 3 := rfl
  rw [e3] at ez
  have e0 : ((0 : Nat) : Int) = 0 := rfl
  rw [e0] at z0
  generalize D.lst (zs.map D.int) = Z at *
  generalize D.lst (cs.map D.int) = C at *
  generalize cell3 s pl = M0 at *
  generalize wordD b = W at *
  generalize (if b then (1 : Nat) else 0) = r2 at *
  generalize (if b then (1 : Int) else 0) = r3 at *
  have nC : noRef C = true ∨ True := .inr trivial
  simp [pHead, ii, ez, z0, m5, hw, q, ib, pick, -idx_lst]
theorem plan_turn {k dg at_ : Nat} (hd : T[dg]? = some fDigits) (hl : T[l]? = some fLow3) (hg : T[g]? = some (fCrossN l)) (hk : 2 ≤ k) {cs : List Int} {i : Nat} (hi : i < cs.length) (ha : at_ + i ≤ 1000) {s : St} (gs : GoodS s) {pl : List Deed} (h1 : s.1.length + s.2.length ≤ 500) (h2 : pl.length ≤ 500) (s0 s7 s8 s9 s10 s11 s12 s13 : Option D) :
    ∃ (s' : St) (pl' : List Deed) (t7 t8 t9 t10 t11 t12 : Option D), ((s' = s ∧ pl' = pl) ∨ (∃ d, OkD s d ∧ s' = putS s d.1 (dnew s d) ∧ pl' = pl ++ [d])) ∧
      exSs P (run P T k) (pHead dg ++ [pTail g]) [s0, some (.lst (cs.map D.int)), some (.int (at_ : Int)), some (.ref 0), some (.ref 1), some (.ref 2), some (rj i), s7, s8, s9, s10, s11, s12, s13] (cell3 s pl)
      = .ok .nx [s0, some (.lst (cs.map D.int)), some (.int (at_ : Int)), some (.ref 0), some (.ref 1), some (.ref 2), some (rj i), t7, t8, t9, t10, t11, t12, s13] (cell3 s' pl') := by
  obtain ⟨zs, b, hz, eh⟩ := plan_head (P := P) (T := T) (k := k) hd (by omega) hi ha (s := s) (pl := pl) s0 s7 s8 s9 s10 s11 s12 s13
  have hcell : (cell3 s pl)[if b then 1 else 0]? = some (.lst ((src b s).map pt)) := by cases b <;> rfl
  have lo : biD false .len [.ref (if b then 1 else 0)] (cell3 s pl) = .ok (.int ((src b s).length : Int)) (cell3 s pl) := by
    simp only [biD, lenD, lenD1, seqOf, hcell, List.length_map]
  rw [exSs_append, eh, OutS.next_nx, ex_cons]
  unfold pTail
  rw [ex_ite]
  have z1 := idx_ints (zs := zs) (i := 1) (by omega)
  have z2 := idx_ints (zs := zs) (i := 2) (by omega)
  by_cases hn : (1 : Int) < ((src b s).length : Int)
  · obtain ⟨x, hx, ex⟩ := fmod_nat (zs.getD 1 0) (m := (src b s).length) (by omega)
    obtain ⟨y, hy, ey⟩ := fmod_nat (zs.getD 2 0) (m := (src b s).length) (by omega)
    have m1 : ∀ M : Hh, binI .mod (zs.getD 1 0) ((src b s).length : Int) M = .ok (.int (x : Int)) M := fun M => by rw [binI_modP (by omega), ex]
    have m2 : ∀ M : Hh, binI .mod (zs.getD 2 0) ((src b s).length : Int) M = .ok (.int (y : Int)) M := fun M => by rw [binI_modP (by omega), ey]
    obtain ⟨s', pl', t12, hs, et⟩ := plan_try (P := P) (T := T) (k := k) (g := g) gs h1 h2 (b := b) (i := x) (j := y) hx hy
      (fun z M => (crossN_no (P := P) hg (k := k) hk (dnew_bd gs hx) (dnew_bd gs hy) (by decide) z).own M)
      (fun z M => (crossN_ok (P := P) hl hg (k := k) hk (dnew_bd gs hx) (dnew_bd gs hy) (by decide) z).own M) s0 (some (.lst (cs.map D.int))) (some (.int (at_ : Int))) (some (rj i)) (some (.lst (zs.map D.int))) s12 s13
    refine ⟨s', pl', some (.lst (zs.map D.int)), some (wordD b), some (.ref (if b then 1 else 0)), some (.int (x : Int)), some (.int (y : Int)), t12, ?_, ?_⟩
    · rcases hs with h | ⟨h3, h4, h5⟩
      · exact .inl h
      · exact .inr ⟨_, h3, h4, h5⟩
    · have ei : exSs P (run P T k) pIn [s0, some (.lst (cs.map D.int)), some (.int (at_ : Int)), some (.ref 0), some (.ref 1), some (.ref 2), some (rj i), some (.lst (zs.map D.int)), some (wordD b), some (.ref (if b then 1 else 0)), s10, s11, s12, s13] (cell3 s pl) = .ok .nx [s0, some (.lst (cs.map D.int)), some (.int (at_ : Int)), some (.ref 0), some (.ref 1), some (.ref 2), some (rj i), some (.lst (zs.map D.int)), some (wordD b), some (.ref (if b then 1 else 0)), some (.int (x : Int)), some (.int (y : Int)), s12, s13] (cell3 s pl) := by
        have e1 : ((1 : Nat) : Int) = 1 := rfl
        have e2 : ((2 : Nat) : Int) = 2 := rfl
        rw [e1] at z1
        rw [e2] at z2
        generalize (if b then (1 : Nat) else 0) = r2 at *
        generalize zs.getD 1 0 = v1 at *
        generalize zs.getD 2 0 = v2 at *
        generalize D.lst (zs.map D.int) = Z at *
        generalize D.lst (cs.map D.int) = C at *
        generalize cell3 s pl = M0 at *
        generalize ((src b s).length : Int) = len at *
        simp [pIn, lo, z1, z2, m1, m2, -idx_lst]
      have ec : evE P (run P T k) (.cmp .gt (.bi false .len [(.var 9)]) (.lit (.int (1)))) [s0, some (.lst (cs.map D.int)), some (.int (at_ : Int)), some (.ref 0), some (.ref 1), some (.ref 2), some (rj i), some (.lst (zs.map D.int)), some (wordD b), some (.ref (if b then 1 else 0)), s10, s11, s12, s13] (cell3 s pl) = .ok (.bl true) (cell3 s pl) := by
        generalize (if b then (1 : Nat) else 0) = r2 at *
        generalize cell3 s pl = M0 at *
        simp only [ev_cmp, ev_bi, ev_cons, ev_var, ev_nil, ev_lit, List.getElem?_cons_succ, List.getElem?_cons_zero, Out.bind_ok, lo, cmp_gt, decide_eq_true hn, outB_some]
      rw [ec]
      simp only [Out.st_ok, ifB_true]
      rw [exSs_append, ei, OutS.next_nx, et]
      simp
  · refine ⟨s, pl, some (.lst (zs.map D.int)), some (wordD b), some (.ref (if b then 1 else 0)), s10, s11, s12, .inl ⟨rfl, rfl⟩, ?_⟩
    have ec : evE P (run P T k) (.cmp .gt (.bi false .len [(.var 9)]) (.lit (.int (1)))) [s0, some (.lst (cs.map D.int)), some (.int (at_ : Int)), some (.ref 0), some (.ref 1), some (.ref 2), some (rj i), some (.lst (zs.map D.int)), some (wordD b), some (.ref (if b then 1 else 0)), s10, s11, s12, s13] (cell3 s pl) = .ok (.bl false) (cell3 s pl) := by
      generalize (if b then (1 : Nat) else 0) = r2 at *
      generalize cell3 s pl = M0 at *
      simp only [ev_cmp, ev_bi, ev_cons, ev_var, ev_nil, ev_lit, List.getElem?_cons_succ, List.getElem?_cons_zero, Out.bind_ok, lo, cmp_gt, decide_eq_false hn, outB_some]
    rw [ec]
    simp
theorem deeds_noRef (pl : List Deed) : noRefL (pl.map deedD) = true := by
  induction pl with
  | nil => rfl
  | cons d r ih =>
    obtain ⟨b, i, j⟩ := d
    rw [List.map_cons, noRefL_cons, ih]
    cases b <;> rfl
theorem plan_ok {dg at_ : Nat} (hd : T[dg]? = some fDigits) (hl : T[l]? = some fLow3) (hg : T[g]? = some (fCrossN l)) (h : T[n]? = some (fPlan dg g)) {k : Nat} (hk : 3 ≤ k) {ps : List Pt} (gp : ∀ p ∈ ps, LowP p ∧ BdP 3000 p) {cs : List Int} (hc : ps.length + cs.length ≤ 400) (ha : at_ ≤ 500) :
    ∃ (pl : List Deed) (t : St), Walk pl (ps, []) t ∧ pl.length ≤ cs.length ∧ Ev P T k n [.lst (ps.map pt), .lst (cs.map D.int), .int (at_ : Int)] (.lst [.lst (pl.map deedD), .lst (t.1.map pt), .lst (t.2.map pt)]) := by
  obtain ⟨k, rfl⟩ : ∃ j, k = j + 1 := ⟨k - 1, by omega⟩
  have g0 : GoodS (ps, []) := by
    intro b p hp
    cases b
    · exact gp p hp
    · cases hp
  obtain ⟨σ', M', e, s, pl, s7, s8, s9, s10, s11, s12, s6, rfl, rfl, W, gs, h1, h2, _⟩ := forL_all (bind := bindTg [6]) (b := exSs P (run P T k) (pHead dg ++ [pTail g])) (g := [])
    (fun r σ M => ∃ (s : St) (pl : List Deed) (s7 s8 s9 s10 s11 s12 s6 : Option D), σ = [some (.lst (ps.map pt)), some (.lst (cs.map D.int)), some (.int (at_ : Int)), some (.ref 0), some (.ref 1), some (.ref 2), s6, s7, s8, s9, s10, s11, s12, none] ∧ M = cell3 s pl ∧ Walk pl (ps, []) s ∧ GoodS s ∧ s.1.length + s.2.length = ps.length + pl.length ∧ pl.length + r.length ≤ cs.length ∧ ∀ x ∈ r, ∃ i : Nat, i < cs.length ∧ x = rj i)
    (fun _ _ _ _ => by simp)
    (by
      rintro x r σ M ⟨s, pl, s7, s8, s9, s10, s11, s12, s6, rfl, rfl, W, gs, h1, h2, hx⟩
      obtain ⟨i, hi, rfl⟩ := hx x (by simp)
      rw [List.length_cons] at h2
      obtain ⟨s', pl', t7, t8, t9, t10, t11, t12, hs, et⟩ := plan_turn (P := P) (T := T) (k := k) hd hl hg (by omega) hi (at_ := at_) (by omega) gs (pl := pl) (by omega) (by omega) (some (.lst (ps.map pt))) s7 s8 s9 s10 s11 s12 none
      refine ⟨_, _, _, rfl, .inl et, s', pl', t7, t8, t9, t10, t11, t12, some (rj i), rfl, rfl, ?_⟩
      rcases hs with ⟨rfl, rfl⟩ | ⟨d, hd, rfl, rfl⟩
      · exact ⟨W, gs, h1, by omega, fun y hy => hx y (List.mem_cons_of_mem _ hy)⟩
      · exact ⟨W.snoc hd, gs.go hd, by rw [putS_len, List.length_append, List.length_singleton]; omega, by rw [List.length_append, List.length_singleton]; omega, fun y hy => hx y (List.mem_cons_of_mem _ hy)⟩)
    ((List.range cs.length).map rj) [some (.lst (ps.map pt)), some (.lst (cs.map D.int)), some (.int (at_ : Int)), some (.ref 0), some (.ref 1), some (.ref 2), none, none, none, none, none, none, none, none] (cell3 (ps, []) [])
    ⟨(ps, []), [], none, none, none, none, none, none, none, rfl, rfl, .nil, g0, by simp, by simp, fun x hx => by
      obtain ⟨i, hi, rfl⟩ := List.mem_map.mp hx
      exact ⟨i, List.mem_range.mp hi, rfl⟩⟩
  refine ⟨pl, s, W, by simpa using h2, Ev.of' h rfl (d := .lst [.ref 2, .ref 0, .ref 1]) (M' := cell3 s pl) ?_ ?_ ?_⟩
  · have st : exSs P (run P T k) [.asg (.name 3) (.bi true .list [(.var 0)]), .asg (.name 4) (.lst true []), .asg (.name 5) (.lst true [])] [some (.lst (ps.map pt)), some (.lst (cs.map D.int)), some (.int (at_ : Int)), none, none, none, none, none, none, none, none, none, none, none] [] = .ok .nx [some (.lst (ps.map pt)), some (.lst (cs.map D.int)), some (.int (at_ : Int)), some (.ref 0), some (.ref 1), some (.ref 2), none, none, none, none, none, none, none, none] (cell3 (ps, []) []) := by
      simp [biD, listD, cell3]
    show endS (exSs P (run P T k) ([_, _, _] ++ (_ :: [_])) [some (.lst (ps.map pt)), some (.lst (cs.map D.int)), some (.int (at_ : Int)), none, none, none, none, none, none, none, none, none, none, none] []) = _
    rw [exSs_append, st, OutS.next_nx, ex_cons, ex_loop]
    have lo : ∀ M, biD false .len [.lst (cs.map D.int)] M = .ok (rj cs.length) M := fun M => by simp [biD, lenD, lenD1, rj]
    have it : ∀ M, itsD .rng1 [rj cs.length] M = some ((List.range cs.length).map rj, []) := its_rj _ (by omega)
    simp only [ev_cons, ev_bi, ev_var, ev_nil, List.getElem?_cons_succ, List.getElem?_cons_zero, Out.bind_ok, Out.st_ok, lo, it]
    rw [e]
    simp
  · have z0 : (cell3 s pl)[0]? = some (.lst (s.1.map pt)) := rfl
    have z1 : (cell3 s pl)[1]? = some (.lst (s.2.map pt)) := rfl
    have z2 : (cell3 s pl)[2]? = some (.lst (pl.map deedD)) := rfl
    simp only [snap, List.map_cons, List.map_nil, z0, z1, z2]
    rw [snap_noRefL 6 _ (noRefL_pts s.1), snap_noRefL 6 _ (noRefL_pts s.2), snap_noRefL 6 _ (deeds_noRef pl)]
  · simp [noRefL_pts, deeds_noRef]
end
end Fw
namespace Fw
open PySem
def wordL (b : Bool) : List Nat := if b then [112, 101, 103] else [108, 105, 110, 101]
theorem wordD_eq (b : Bool) : wordD b = .str (wordL b) := by cases b <;> rfl
def rowL (d : Deed) : List Nat := TL.joinL [32] [wordL d.1, TL.numL d.2.1, TL.numL d.2.2]
def planL (pl : List Deed) : List Nat := TL.joinL [59, 32] (pl.map rowL)
structure SmD (d : Deed) : Prop where
  i : d.2.1 < 10 ^ 70
  j : d.2.2 < 10 ^ 70
theorem numL_70 {n : Nat} (h : n < 10 ^ 70) : (TL.numL n).length ≤ 70 := TL.numL_len (by decide) h
theorem numL_mem {n x : Nat} (h : x ∈ TL.numL n) : 48 ≤ x ∧ x ≤ 57 := TL.numL_digits n x h
theorem wordL_mem {b : Bool} {x : Nat} (h : x ∈ wordL b) : 101 ≤ x ∧ x ≤ 112 := by
  cases b <;> simp [wordL] at h <;> omega
theorem wordL_len (b : Bool) : (wordL b).length ≤ 4 := by cases b <;> decide
theorem rowL_eq (d : Deed) : rowL d = wordL d.1 ++ ([32] ++ (TL.numL d.2.1 ++ ([32] ++ TL.numL d.2.2))) := rfl
theorem rowL_mem {d : Deed} {x : Nat} (h : x ∈ rowL d) : x = 32 ∨ (48 ≤ x ∧ x ≤ 57) ∨ (101 ≤ x ∧ x ≤ 112) := by
  rw [rowL_eq] at h
  simp only [List.mem_append, List.mem_singleton] at h
  rcases h with h | h | h | h | h
  · exact .inr (.inr (wordL_mem h))
  · exact .inl h
  · exact .inr (.inl (numL_mem h))
  · exact .inl h
  · exact .inr (.inl (numL_mem h))
theorem rowL_len {d : Deed} (h : SmD d) : (rowL d).length ≤ 146 := by
  rw [rowL_eq]
  have h1 := numL_70 h.i
  have h2 := numL_70 h.j
  have h3 := wordL_len d.1
  simp only [List.length_append, List.length_singleton]
  omega
theorem rowL_ne (d : Deed) : rowL d ≠ [] := by
  rw [rowL_eq]
  cases d.1 <;> simp [wordL]
theorem joinL_len (S : List Nat) {n : Nat} : ∀ ps : List (List Nat), (∀ p ∈ ps, p.length ≤ n) → (TL.joinL S ps).length ≤ ps.length * (n + S.length)
  | [], _ => by simp [TL.joinL]
  | [p], h => by
    have := h p (by simp)
    simp [TL.joinL]
    omega
  | p :: q :: r, h => by
    have h1 := h p (by simp)
    have ih := joinL_len S (q :: r) fun x hx => h x (List.mem_cons_of_mem _ hx)
    show (p ++ (S ++ TL.joinL S (q :: r))).length ≤ _
    rw [List.length_append, List.length_append, List.length_cons, Nat.add_mul, Nat.one_mul]
    omega
theorem sum_len {n : Nat} : ∀ ps : List (List Nat), (∀ p ∈ ps, p.length ≤ n) → (ps.map (·.length)).sum ≤ ps.length * n
  | [], _ => by simp
  | p :: r, h => by
    have h1 := h p (by simp)
    have ih := sum_len r fun x hx => h x (List.mem_cons_of_mem _ hx)
    rw [List.map_cons, List.sum_cons, List.length_cons, Nat.add_mul, Nat.one_mul]
    omega
theorem rows_len {pl : List Deed} (h : ∀ d ∈ pl, SmD d) : ∀ p ∈ pl.map rowL, p.length ≤ 146 := by
  intro p hp
  obtain ⟨d, hd, rfl⟩ := List.mem_map.mp hp
  exact rowL_len (h d hd)
theorem planL_len {pl : List Deed} (h : ∀ d ∈ pl, SmD d) (hl : pl.length ≤ 5000) : (planL pl).length ≤ 1000000 := by
  have := joinL_len [59, 32] (pl.map rowL) (rows_len h)
  rw [List.length_map] at this
  have e : ([59, 32] : List Nat).length = 2 := rfl
  rw [e] at this
  unfold planL
  omega
theorem line_val : line = 16777216 := by unfold line; rw [sizeLine_eq]
theorem strs_map : ∀ ps : List (List Nat), strsOf (ps.map D.str) = some ps
  | [] => rfl
  | p :: r => by simp [strsOf, strs_map r]
theorem join_ok {S : List Nat} {ps : List (List Nat)} {n : Nat} (h : ∀ p ∈ ps, p.length ≤ n) (hl : ps.length * (n + S.length) ≤ 1000000) {d : D} {M : Hh} (hd : seqOf M d = some (ps.map D.str)) : joinD (.str S) [d] M = .ok (.str (TL.joinL S ps)) M := by
  have h1 := sum_len ps h
  have h2 := joinL_len S ps h
  have e : (seqOf M d).bind strsOf = some ps := by
    rw [hd, Option.bind_some, strs_map]
  rw [Nat.mul_add] at hl
  simp only [joinD, e]
  rw [if_pos]
  rw [Nat.mul_add] at h2
  have := line_val
  omega
theorem intL_num (n : Nat) : intL (n : Int) = TL.numL n := TL.tl_num n
theorem str_ok {n : Nat} (h : n < 10 ^ 70) (m : Bool) (M : Hh) : biD m .str [.int (n : Int)] M = .ok (.str (TL.numL n)) M := by
  have h70 := numL_70 h
  have hb : (n : Int).natAbs.log2 < 1900 := by
    rw [Int.natAbs_natCast]
    by_cases z : n = 0
    · subst z; decide
    · exact (Nat.log2_lt z).mpr (Nat.lt_of_lt_of_le h (by decide))
  simp only [biD, strD]
  rw [if_pos, intL_num]
  refine ⟨hb, ?_, fun x hx => ?_⟩
  · rw [intL_num, line_val]; omega
  · rw [intL_num] at hx
    have := numL_mem hx
    omega
theorem numL_head : ∀ n : Nat, 1 ≤ n → ∃ c r, TL.numL n = c :: r ∧ c ≠ 48 := by
  intro n
  induction n using Nat.strongRecOn with
  | _ n ih =>
    intro h
    by_cases h10 : n < 10
    · exact ⟨48 + n, [], TL.numL_lt h10, by omega⟩
    · obtain ⟨c, r, e, hc⟩ := ih (n / 10) (by omega) (by omega)
      exact ⟨c, r ++ [48 + n % 10], by rw [TL.numL_step (by omega), e]; rfl, hc⟩
theorem numL_one {n : Nat} (h : (TL.numL n)[0]? = some 48) : (TL.numL n).length = 1 := by
  by_cases z : n = 0
  · subst z; rfl
  · obtain ⟨c, r, e, hc⟩ := numL_head n (by omega)
    rw [e] at h
    simp at h
    exact absurd h hc
def fShown : Fn := ⟨1, 4, [
  .ret (.bm false .join (.lit (.str [59, 32])) [(.comp false [1, 2, 3] .seq [(.var 0)] none (.bm false .join (.lit (.str [32])) [(.lst false [(.var 1), (.bi false .str [(.var 2)]), (.bi false .str [(.var 3)])])]))])]⟩
def fNumberIn (g c : Nat) : Fn := ⟨1, 2, [
  .ite (.or (.cmp .eq (.var 0) (.lit (.str []))) (.and (.cmp .eq (.idx (.var 0) (.lit (.int (0)))) (.lit (.str [48]))) (.cmp .gt (.bi false .len [(.var 0)]) (.lit (.int (1)))))) [
    .raise c []] [],
  .loop [1] .seq [(.var 0)] [
    .ite (.cmp .notin (.var 1) (.glo g)) [
      .raise c []] []],
  .ret (.bi false .int [(.var 0)])]⟩
def fDeedIn (ni c : Nat) : Fn := ⟨1, 2, [
  .asg (.name 1) (.bm false .split (.var 0) [(.lit (.str [32]))]),
  .ite (.or (.cmp .ne (.bi false .len [(.var 1)]) (.lit (.int (3)))) (.cmp .notin (.idx (.var 1) (.lit (.int (0)))) (.tup [(.lit (.str [108, 105, 110, 101])), (.lit (.str [112, 101, 103]))]))) [
    .raise c []] [],
  .ret (.tup [(.idx (.var 1) (.lit (.int (0)))), (.call true ni [(.idx (.var 1) (.lit (.int (1))))]), (.call true ni [(.idx (.var 1) (.lit (.int (2))))])])]⟩
section
variable {P : Pg} {T : List Fn} {n : Nat}
theorem shown_ok (h : T[n]? = some fShown) {k : Nat} (hk : 1 ≤ k) {pl : List Deed} (hs : ∀ d ∈ pl, SmD d) (hl : pl.length ≤ 5000) : Ev P T k n [.lst (pl.map deedD)] (.str (planL pl)) := by
  obtain ⟨k, rfl⟩ : ∃ j, k = j + 1 := ⟨k - 1, by omega⟩
  have c1 : ∀ M, compL (fun x => bindTg [1, 2, 3] x [some (.lst (pl.map deedD)), none, none, none]) (fun _ M => .ok (.bl true) M) (evE P (run P T k) (.bm false .join (.lit (.str [32])) [(.lst false [(.var 1), (.bi false .str [(.var 2)]), (.bi false .str [(.var 3)])])])) [] (pl.map deedD) [] M = .ok ((pl.map rowL).map D.str) M := by
    intro M
    rw [compL_of deedD (fun _ => true) (fun d => .str (rowL d)) (by simp)]
    · rw [List.nil_append, List.filter_eq_self.mpr (fun _ _ => rfl), List.map_map]
      rfl
    · intro d hd
      obtain ⟨b, i, j⟩ := d
      have hd := hs _ hd
      refine ⟨[some (.lst (pl.map deedD)), some (wordD b), some (.int (i : Int)), some (.int (j : Int))], rfl, rfl, fun _ => ?_⟩
      have s1 := str_ok (n := i) hd.i false M
      have s2 := str_ok (n := j) hd.j false M
      have jo := join_ok (S := [32]) (ps := [wordL b, TL.numL i, TL.numL j]) (n := 70) (by
        intro p hp
        simp only [List.mem_cons, List.mem_nil_iff, or_false] at hp
        rcases hp with rfl | rfl | rfl
        · exact Nat.le_trans (wordL_len b) (by decide)
        · exact numL_70 hd.i
        · exact numL_70 hd.j) (by simp) (d := .lst [.str (wordL b), .str (TL.numL i), .str (TL.numL j)]) (M := M) rfl
      have er : TL.joinL [32] [wordL b, TL.numL i, TL.numL j] = rowL (b, i, j) := rfl
      rw [er] at jo
      rw [wordD_eq]
      generalize rowL (b, i, j) = R at *
      generalize TL.numL i = I at *
      generalize TL.numL j = J at *
      generalize wordL b = W at *
      generalize pl.map deedD = pd at *
      simp [s1, s2, bmOk, bmK, bmD, jo]
  have jo := join_ok (S := [59, 32]) (ps := pl.map rowL) (n := 146) (rows_len hs) (by simp; omega) (d := .lst ((pl.map rowL).map D.str)) (M := []) rfl
  have ln : ¬ line < (pl.map deedD).length := by rw [List.length_map, line_val]; omega
  refine Ev.of h rfl rfl ?_
  unfold planL
  generalize TL.joinL [59, 32] (pl.map rowL) = R at *
  generalize (pl.map rowL).map D.str = rd at *
  generalize pl.map deedD = pd at *
  simp [fShown, startS, bmOk, bmK, itsD, seqIt, guardOf, ln, c1, endG, bmD, jo]
theorem numberIn_ok {g c : Nat} (hg : P.gl[g]? = some (.str [48, 49, 50, 51, 52, 53, 54, 55, 56, 57])) (h : T[n]? = some (fNumberIn g c)) {k : Nat} (hk : 1 ≤ k) {m : Nat} (hm : m < 10 ^ 70) : Ev P T k n [.str (TL.numL m)] (.int (m : Int)) := by
  obtain ⟨k, rfl⟩ : ∃ j, k = j + 1 := ⟨k - 1, by omega⟩
  have h70 := numL_70 hm
  have ti : PySem.intText? ⟨(TL.numL m).toArray⟩ = some (m : Int) := by
    have e := TL.int_num (n := m) (by omega)
    have e2 : (⟨(TL.numL m).toArray⟩ : Str) = Str.ofString (toString ((m : Nat) : Int)) := TL.ext_tl (by rw [TL.tl_num])
    rw [e2]
    exact e
  have bi : ∀ M, biD false .int [.str (TL.numL m)] M = .ok (.int (m : Int)) M := fun M => by
    simp only [biD, intD, ti]
    rw [if_pos (by omega)]
  have ne : TL.numL m ≠ [] := TL.numL_ne m
  have q0 : ∀ M, eqM M (.str (TL.numL m)) (.str []) = some false := fun M => by
    unfold eqM
    simp [plain, eqD, ne]
  obtain ⟨c0, r0, e0⟩ : ∃ c0 r0, TL.numL m = c0 :: r0 := List.exists_cons_of_ne_nil ne
  have i0 : ∀ M, idxD (.str (TL.numL m)) (.int 0) M = .ok (.str [c0]) M := fun M => by
    rw [e0]
    simp [idxD, ixN]
  have lo : ∀ M, biD false .len [.str (TL.numL m)] M = .ok (.int ((TL.numL m).length : Int)) M := fun _ => rfl
  have q1 : ∀ M, eqM M (.str [c0]) (.str [48]) = some (decide (c0 = 48)) := fun M => by
    have e : eqM M (.str [c0]) (.str [48]) = some ([c0] == [48]) := rfl
    rw [e]
    by_cases e : c0 = 48
    · subst e; rfl
    · simp [e]
  have hz : c0 = 48 → ¬ (1 : Int) < ((TL.numL m).length : Int) := fun e => by
    have := numL_one (n := m) (by rw [e0, e]; rfl)
    omega
  obtain ⟨σ', e, s1, rfl⟩ := loop_keep (is := [1]) (b := exSs P (run P T k) [
    .ite (.cmp .notin (.var 1) (.glo g)) [
      .raise c []] []]) (xs := (TL.numL m).map fun c => D.str [c]) (σ := [some (.str (TL.numL m)), none]) (fun σ => ∃ s, σ = [some (.str (TL.numL m)), s]) ⟨_, rfl⟩ (by
    rintro x hx σ ⟨s, rfl⟩
    obtain ⟨y, hy, rfl⟩ := List.mem_map.mp hx
    have hd := numL_mem hy
    have ct : ([48, 49, 50, 51, 52, 53, 54, 55, 56, 57] : List Nat).contains y = true := by
      have : y = 48 ∨ y = 49 ∨ y = 50 ∨ y = 51 ∨ y = 52 ∨ y = 53 ∨ y = 54 ∨ y = 55 ∨ y = 56 ∨ y = 57 := by omega
      rcases this with e | e | e | e | e | e | e | e | e | e <;> rw [e] <;> rfl
    have ni : ∀ M, cmpD .notin (.str [y]) (.str [48, 49, 50, 51, 52, 53, 54, 55, 56, 57]) M = some false := fun M => by
      have : inD M (.str [y]) (.str [48, 49, 50, 51, 52, 53, 54, 55, 56, 57]) = some (([48, 49, 50, 51, 52, 53, 54, 55, 56, 57] : List Nat).contains y) := rfl
      simp only [cmpD, this, ct, Option.map_some, Bool.not_true]
    refine ⟨_, [some (.str (TL.numL m)), some (.str [y])], rfl, .inl ?_, _, rfl⟩
    generalize TL.numL m = L at *
    generalize (D.str [48, 49, 50, 51, 52, 53, 54, 55, 56, 57]) = FG at *
    simp [hg, ni])
  have it : ∀ M, itsD .seq [.str (TL.numL m)] M = some ((TL.numL m).map fun c => D.str [c], []) := fun _ => rfl
  refine Ev.of h rfl rfl ?_
  have st : exS P (run P T k) (.ite (.or (.cmp .eq (.var 0) (.lit (.str []))) (.and (.cmp .eq (.idx (.var 0) (.lit (.int (0)))) (.lit (.str [48]))) (.cmp .gt (.bi false .len [(.var 0)]) (.lit (.int (1)))))) [
    .raise c []] []) [some (.str (TL.numL m)), none] [] = .ok .nx [some (.str (TL.numL m)), none] [] := by
    generalize ((TL.numL m).length : Int) = len at *
    generalize hX : D.str (TL.numL m) = X at *
    by_cases hc : c0 = 48
    · have hz := hz hc
      have q1 : ∀ M, eqM M (.str [c0]) (.str [48]) = some true := fun M => by rw [q1, decide_eq_true hc]
      simp [q0, i0, q1, lo, hz]
    · simp [q0, i0, q1, hc]
  show endS (exSs P (run P T k) (_ :: _ :: [_]) [some (.str (TL.numL m)), none] []) = _
  rw [ex_cons, st, OutS.next_nx, ex_cons, ex_loop]
  simp only [ev_cons, ev_var, ev_nil, List.getElem?_cons_succ, List.getElem?_cons_zero, Out.bind_ok, Out.st_ok, it]
  rw [e]
  generalize D.str (TL.numL m) = X at *
  simp [bi]
theorem split_ok {t : Nat} {ts : List Nat} (m : Bool) {ps : List (List Nat)} (ne : ps ≠ []) (hf : ∀ p ∈ ps, t ∉ p) (h256 : ((t :: ts).all fun x => decide (x < 256)) = true) (hb : ∀ p ∈ ps, p.length ≤ 1000 ∧ ∀ x ∈ p, x < 1114112) (hl : ps.length ≤ 5000) (hll : (TL.joinL (t :: ts) ps).length ≤ 1000000) (M : Hh) :
    splitD m (.str (TL.joinL (t :: ts) ps)) [.str (t :: ts)] M = mkL m (ps.map D.str) M := by
  have e := TL.spl_join (S := ts) ne hf
  have lv := line_val
  simp only [splitD, e]
  rw [if_pos]
  exact ⟨by omega, h256, by omega, fun p hp => ⟨by have := (hb p hp).1; omega, (hb p hp).2⟩⟩
theorem deedIn_ok {g c c' ni : Nat} (hg : P.gl[g]? = some (.str [48, 49, 50, 51, 52, 53, 54, 55, 56, 57])) (hn : T[ni]? = some (fNumberIn g c)) (h : T[n]? = some (fDeedIn ni c')) {k : Nat} (hk : 2 ≤ k) {d : Deed} (hd : SmD d) : Ev P T k n [.str (rowL d)] (deedD d) := by
  obtain ⟨k, rfl⟩ : ∃ j, k = j + 1 := ⟨k - 1, by omega⟩
  obtain ⟨b, i, j⟩ := d
  have n1 := (numberIn_ok (P := P) hg hn (k := k) (by omega) hd.i).own
  have n2 := (numberIn_ok (P := P) hg hn (k := k) (by omega) hd.j).own
  have hp : ∀ p ∈ [wordL b, TL.numL i, TL.numL j], 32 ∉ p ∧ p.length ≤ 1000 ∧ ∀ x ∈ p, x < 1114112 := by
    intro p hp
    simp only [List.mem_cons, List.mem_nil_iff, or_false] at hp
    rcases hp with rfl | rfl | rfl
    · exact ⟨fun h => by have := wordL_mem h; omega, by have := wordL_len b; omega, fun x hx => by have := wordL_mem hx; omega⟩
    · exact ⟨fun h => by have := numL_mem h; omega, by have : (TL.numL i).length ≤ 70 := numL_70 hd.i; omega, fun x hx => by have := numL_mem hx; omega⟩
    · exact ⟨fun h => by have := numL_mem h; omega, by have : (TL.numL j).length ≤ 70 := numL_70 hd.j; omega, fun x hx => by have := numL_mem hx; omega⟩
  have sp : ∀ M, splitD false (.str (rowL (b, i, j))) [.str [32]] M = .ok (.lst [.str (wordL b), .str (TL.numL i), .str (TL.numL j)]) M := fun M =>
    split_ok false (ts := []) (ps := [wordL b, TL.numL i, TL.numL j]) (by simp) (fun p h => (hp p h).1) (by decide) (fun p h => (hp p h).2) (by simp) (by have := rowL_len hd; exact Nat.le_trans this (by decide)) M
  have i0 : ∀ M, idxD (.lst [.str (wordL b), .str (TL.numL i), .str (TL.numL j)]) (.int 0) M = .ok (wordD b) M := fun _ => by rw [wordD_eq]; rfl
  have i1 : ∀ M, idxD (.lst [.str (wordL b), .str (TL.numL i), .str (TL.numL j)]) (.int 1) M = .ok (.str (TL.numL i)) M := fun _ => rfl
  have i2 : ∀ M, idxD (.lst [.str (wordL b), .str (TL.numL i), .str (TL.numL j)]) (.int 2) M = .ok (.str (TL.numL j)) M := fun _ => rfl
  have lo : ∀ M, biD false .len [.lst [.str (wordL b), .str (TL.numL i), .str (TL.numL j)]] M = .ok (.int 3) M := fun _ => rfl
  have ni' : ∀ M, cmpD .notin (wordD b) (.tup [.str [108, 105, 110, 101], .str [112, 101, 103]]) M = some false := fun _ => by cases b <;> rfl
  have bk : ∀ M, bmOk .split (.str (rowL (b, i, j))) M = true := fun _ => rfl
  have e : D.tup [wordD b, .int (i : Int), .int (j : Int)] = deedD (b, i, j) := rfl
  refine Ev.of h rfl (by cases b <;> rfl) ?_
  generalize rowL (b, i, j) = R at *
  rw [← e]
  generalize D.lst [.str (wordL b), .str (TL.numL i), .str (TL.numL j)] = L at *
  generalize wordD b = W at *
  generalize TL.numL i = I at *
  generalize TL.numL j = J at *
  simp [fDeedIn, startS, bk, bmD, sp, lo, eqM_int, i0, i1, i2, ni', n1, n2]
end
end Fw
namespace Fw
open PySem
def figsT : List Nat := [48, 49, 50, 51, 52, 53, 54, 55, 56, 57]
def numOk (t : List Nat) : Bool := !t.isEmpty && !(decide (t.head? = some 48) && decide (1 < t.length)) && t.all fun c => figsT.contains c
section
variable {P : Pg} {T : List Fn} {n : Nat}
def numB (g c : Nat) : List S := [
    .ite (.cmp .notin (.var 1) (.glo g)) [
      .raise c []] []]
theorem num_turn {Φ : Orc} {g c : Nat} (hg : P.gl[g]? = some (.str figsT)) (s0 : Option D) (y : Nat) (M : Hh) : exSs P Φ (numB g c) [s0, some (.str [y])] M = if figsT.contains y then .ok .nx [s0, some (.str [y])] M else .exn c [] [s0, some (.str [y])] M := by
  have ni : ∀ M, cmpD .notin (.str [y]) (.str figsT) M = some (!(figsT.contains y)) := fun M => by
    have : inD M (.str [y]) (.str figsT) = some (figsT.contains y) := rfl
    simp only [cmpD, this, Option.map_some]
  generalize hF : D.str figsT = FG at *
  generalize figsT.contains y = b at *
  cases b <;> simp [numB, hg, ni]
theorem num_loop {Φ : Orc} {g c : Nat} (hg : P.gl[g]? = some (.str figsT)) (s0 : Option D) (M : Hh) : ∀ (t : List Nat) (s1 : Option D), if t.all (fun c => figsT.contains c) then ∃ s1', forL (bindTg [1]) (exSs P Φ (numB g c)) [] (t.map fun c => D.str [c]) [s0, s1] M = .ok .nx [s0, s1'] M else ∃ σ', forL (bindTg [1]) (exSs P Φ (numB g c)) [] (t.map fun c => D.str [c]) [s0, s1] M = .exn c [] σ' M
  | [], s1 => by
    rw [List.all_nil, if_pos rfl]
    exact ⟨s1, by simp [forL]⟩
  | y :: t, s1 => by
    have st : forL (bindTg [1]) (exSs P Φ (numB g c)) [] ((y :: t).map fun c => D.str [c]) [s0, s1] M = (exSs P Φ (numB g c) [s0, some (.str [y])] M).turn fun σ' M' => forL (bindTg [1]) (exSs P Φ (numB g c)) [] (t.map fun c => D.str [c]) σ' M' := by
      rw [List.map_cons, forL, if_pos (by simp)]
      rfl
    have ih := num_loop (Φ := Φ) (c := c) hg s0 M t (some (.str [y]))
    rw [List.all_cons, st, num_turn hg s0 y M]
    by_cases h : figsT.contains y = true
    · rw [h, if_pos rfl, Bool.true_and]
      simp only [OutS.turn_nx]
      exact ih
    · have h : figsT.contains y = false := by simpa using h
      rw [h, Bool.false_and, if_neg (by simp), if_neg (by simp)]
      exact ⟨_, rfl⟩
theorem numberIn_no {g c : Nat} (hg : P.gl[g]? = some (.str figsT)) (h : T[n]? = some (fNumberIn g c)) {k : Nat} (hk : 1 ≤ k) {t : List Nat} (hn : numOk t = false) : EvX P T k n [.str t] c [] := by
  obtain ⟨k, rfl⟩ : ∃ j, k = j + 1 := ⟨k - 1, by omega⟩
  refine EvX.of (M' := []) h rfl rfl ?_
  show endS (exSs P (run P T k) [
    .ite (.or (.cmp .eq (.var 0) (.lit (.str []))) (.and (.cmp .eq (.idx (.var 0) (.lit (.int (0)))) (.lit (.str [48]))) (.cmp .gt (.bi false .len [(.var 0)]) (.lit (.int (1)))))) [
      .raise c []] [],
    .loop [1] .seq [(.var 0)] (numB g c),
    .ret (.bi false .int [(.var 0)])] [some (.str t), none] []) = _
  cases t with
  | nil =>
    have q : ∀ M, eqM M (.str []) (.str []) = some true := fun _ => rfl
    simp [q]
  | cons c0 r =>
    have q : ∀ M, eqM M (.str (c0 :: r)) (.str []) = some false := fun _ => rfl
    have i0 : ∀ M, idxD (.str (c0 :: r)) (.int 0) M = .ok (.str [c0]) M := fun M => by simp [idxD, ixN]
    have lo : ∀ M, biD false .len [.str (c0 :: r)] M = .ok (.int ((c0 :: r).length : Int)) M := fun _ => rfl
    have q1 : ∀ M, eqM M (.str [c0]) (.str [48]) = some (decide (c0 = 48)) := fun M => by
      have e : eqM M (.str [c0]) (.str [48]) = some ([c0] == [48]) := rfl
      rw [e]
      by_cases e : c0 = 48
      · subst e; rfl
      · simp [e]
    have it : ∀ M, itsD .seq [.str (c0 :: r)] M = some ((c0 :: r).map fun c => D.str [c], []) := fun _ => rfl
    have lp := num_loop (Φ := run P T k) (c := c) hg (some (.str (c0 :: r))) [] (c0 :: r) none
    by_cases hc : c0 = 48 ∧ 1 < (c0 :: r).length
    · obtain ⟨hc, hl⟩ := hc
      have q1 : ∀ M, eqM M (.str [c0]) (.str [48]) = some true := fun M => by rw [q1, decide_eq_true hc]
      have hl : (1 : Int) < ((c0 :: r).length : Int) := by omega
      generalize ((c0 :: r).length : Int) = len at *
      generalize D.str (c0 :: r) = X at *
      simp [q, i0, q1, lo, hl]
    · have ha : ((c0 :: r).all fun c => figsT.contains c) = false := by
        have : numOk (c0 :: r) = (!(decide ((c0 :: r).head? = some 48) && decide (1 < (c0 :: r).length)) && (c0 :: r).all fun c => figsT.contains c) := rfl
        rw [this] at hn
        have h2 : (decide ((c0 :: r).head? = some 48) && decide (1 < (c0 :: r).length)) = false := by
          rw [Bool.and_eq_false_iff]
          by_cases e : c0 = 48
          · right
            exact decide_eq_false fun z => hc ⟨e, z⟩
          · left
            simp [e]
        rw [h2] at hn
        simpa using hn
      rw [if_neg (by rw [ha]; simp)] at lp
      obtain ⟨σ', e⟩ := lp
      have st : exS P (run P T k) (.ite (.or (.cmp .eq (.var 0) (.lit (.str []))) (.and (.cmp .eq (.idx (.var 0) (.lit (.int (0)))) (.lit (.str [48]))) (.cmp .gt (.bi false .len [(.var 0)]) (.lit (.int (1)))))) [
          .raise c []] []) [some (.str (c0 :: r)), none] [] = .ok .nx [some (.str (c0 :: r)), none] [] := by
        generalize hL : ((c0 :: r).length : Int) = len at *
        generalize D.str (c0 :: r) = X at *
        by_cases e1 : c0 = 48
        · have q1 : ∀ M, eqM M (.str [c0]) (.str [48]) = some true := fun M => by rw [q1, decide_eq_true e1]
          have hl : ¬ (1 : Int) < len := by
            have : ¬ 1 < (c0 :: r).length := fun z => hc ⟨e1, z⟩
            omega
          simp [q, i0, q1, lo, hl]
        · simp [q, i0, q1, e1]
      rw [ex_cons, st, OutS.next_nx, ex_cons, ex_loop]
      simp only [ev_cons, ev_var, ev_nil, List.getElem?_cons_succ, List.getElem?_cons_zero, Out.bind_ok, Out.st_ok, it]
      rw [e]
      rfl
abbrev wdsT (t : List Nat) : List (List Nat) := TL.spl [32] 0 [] t
theorem spl_len (S : List Nat) : ∀ (t : List Nat) (k : Nat) (acc : List Nat), (TL.spl S k acc t).length ≤ t.length + 1
  | [], k, acc => by rw [TL.spl_nil]; simp
  | c :: r, 0, acc => by
    show (if TL.pre S (c :: r) = true then acc :: TL.spl S (S.length - 1) [] r else TL.spl S 0 (acc ++ [c]) r).length ≤ _
    split
    · have := spl_len S r (S.length - 1) []
      simp only [List.length_cons]
      omega
    · have := spl_len S r 0 (acc ++ [c])
      simp only [List.length_cons]
      omega
  | c :: r, k + 1, acc => by
    have := spl_len S r k acc
    show (TL.spl S k acc r).length ≤ _
    simp only [List.length_cons]
    omega
theorem spl_mem (S : List Nat) : ∀ (t : List Nat) (k : Nat) (acc : List Nat), ∀ p ∈ TL.spl S k acc t, p.length ≤ acc.length + t.length ∧ ∀ x ∈ p, x ∈ acc ∨ x ∈ t
  | [], k, acc, p, hp => by
    rw [TL.spl_nil, List.mem_singleton] at hp
    subst hp
    exact ⟨by simp, fun x hx => .inl hx⟩
  | c :: r, 0, acc, p, hp => by
    have hp : p ∈ (if TL.pre S (c :: r) = true then acc :: TL.spl S (S.length - 1) [] r else TL.spl S 0 (acc ++ [c]) r) := hp
    split at hp
    · rcases List.mem_cons.mp hp with h | h
      · subst h
        exact ⟨by simp, fun x hx => .inl hx⟩
      · obtain ⟨h1, h2⟩ := spl_mem S r (S.length - 1) [] p h
        refine ⟨by simp only [List.length_cons, List.length_nil] at *; omega, fun x hx => ?_⟩
        rcases h2 x hx with z | z
        · cases z
        · exact .inr (List.mem_cons_of_mem _ z)
    · obtain ⟨h1, h2⟩ := spl_mem S r 0 (acc ++ [c]) p hp
      refine ⟨by simp only [List.length_append, List.length_cons, List.length_nil] at *; omega, fun x hx => ?_⟩
      rcases h2 x hx with z | z
      · rcases List.mem_append.mp z with z | z
        · exact .inl z
        · rw [List.mem_singleton] at z
          exact .inr (z ▸ List.mem_cons_self)
      · exact .inr (List.mem_cons_of_mem _ z)
  | c :: r, k + 1, acc, p, hp => by
    have hp : p ∈ TL.spl S k acc r := hp
    obtain ⟨h1, h2⟩ := spl_mem S r k acc p hp
    refine ⟨by simp only [List.length_cons]; omega, fun x hx => ?_⟩
    rcases h2 x hx with z | z
    · exact .inl z
    · exact .inr (List.mem_cons_of_mem _ z)
structure Txt (t : List Nat) : Prop where
  len : t.length ≤ 1000000
  ch : ∀ x ∈ t, x < 1114112
theorem split_any {t : List Nat} (h : Txt t) (m : Bool) {c : Nat} {cs : List Nat} (h256 : ((c :: cs).all fun x => decide (x < 256)) = true) (M : Hh) : splitD m (.str t) [.str (c :: cs)] M = mkL m ((TL.spl (c :: cs) 0 [] t).map D.str) M := by
  have lv := line_val
  have l1 := spl_len (c :: cs) t 0 []
  have l2 := h.len
  simp only [splitD]
  rw [if_pos]
  refine ⟨by omega, h256, by omega, fun p hp => ?_⟩
  obtain ⟨g1, g2⟩ := spl_mem (c :: cs) t 0 [] p hp
  simp only [List.length_nil] at g1
  refine ⟨by omega, fun x hx => ?_⟩
  rcases g2 x hx with z | z
  · cases z
  · exact h.ch x z
def wordOk (a : List Nat) : Bool := decide (a = [108, 105, 110, 101]) || decide (a = [112, 101, 103])
def DeedBad (t : List Nat) : Prop := (wdsT t).length ≠ 3 ∨ ∃ a b d, wdsT t = [a, b, d] ∧ (wordOk a = false ∨ numOk b = false ∨ (∃ m, m < 10 ^ 70 ∧ b = TL.numL m ∧ numOk d = false))
theorem deedIn_no {g c ni : Nat} (hg : P.gl[g]? = some (.str figsT)) (hn : T[ni]? = some (fNumberIn g c)) (h : T[n]? = some (fDeedIn ni c)) {k : Nat} (hk : 2 ≤ k) {t : List Nat} (ht : Txt t) (hb : DeedBad t) : EvX P T k n [.str t] c [] := by
  obtain ⟨k, rfl⟩ : ∃ j, k = j + 1 := ⟨k - 1, by omega⟩
  have sp : ∀ M, splitD false (.str t) [.str [32]] M = .ok (.lst ((wdsT t).map D.str)) M := fun M => split_any ht false (by decide) M
  have bk : ∀ M, bmOk .split (.str t) M = true := fun _ => rfl
  refine EvX.of (M' := []) h rfl rfl ?_
  rcases hb with hb | ⟨a, b, d, hw, hb⟩
  · have lo : ∀ M, biD false .len [.lst ((wdsT t).map D.str)] M = .ok (.int ((wdsT t).length : Int)) M := fun M => by simp [biD, lenD, lenD1]
    have l3 : ¬ ((wdsT t).length : Int) = 3 := by omega
    generalize ((wdsT t).length : Int) = len at *
    generalize D.lst ((wdsT t).map D.str) = L at *
    simp [fDeedIn, startS, bk, bmD, sp, lo, eqM_int, l3]
  · rw [hw] at sp
    replace sp : ∀ M, splitD false (.str t) [.str [32]] M = .ok (.lst [.str a, .str b, .str d]) M := sp
    clear hw
    have lo : ∀ M, biD false .len [.lst [.str a, .str b, .str d]] M = .ok (.int 3) M := fun _ => rfl
    have i0 : ∀ M, idxD (.lst [.str a, .str b, .str d]) (.int 0) M = .ok (.str a) M := fun _ => rfl
    have i1 : ∀ M, idxD (.lst [.str a, .str b, .str d]) (.int 1) M = .ok (.str b) M := fun _ => rfl
    have i2 : ∀ M, idxD (.lst [.str a, .str b, .str d]) (.int 2) M = .ok (.str d) M := fun _ => rfl
    have ni' : ∀ M, cmpD .notin (.str a) (.tup [.str [108, 105, 110, 101], .str [112, 101, 103]]) M = some (!wordOk a) := fun M => by
      have : inD M (.str a) (.tup [.str [108, 105, 110, 101], .str [112, 101, 103]]) = some (eqD (.str [108, 105, 110, 101]) (.str a) || (eqD (.str [112, 101, 103]) (.str a) || false)) := rfl
      simp only [cmpD, this, Option.map_some, wordOk, eqD, Bool.or_false]
      congr 2
      by_cases h1 : a = [108, 105, 110, 101]
      · subst h1; rfl
      · by_cases h2 : a = [112, 101, 103]
        · subst h2; rfl
        · have h1' : ([108, 105, 110, 101] == a) = false := by simp [Ne.symm h1]
          have h2' : ([112, 101, 103] == a) = false := by simp [Ne.symm h2]
          simp [h1, h2, Ne.symm h1, Ne.symm h2]
    cases hwo : wordOk a
    · rw [hwo] at ni'
      generalize D.lst [.str a, .str b, .str d] = L at *
      simp [fDeedIn, startS, bk, bmD, sp, lo, eqM_int, i0, ni']
    · rw [hwo] at ni'
      rcases hb with hb | hb | ⟨m, hm, rfl, hb⟩
      · rw [hwo] at hb; cases hb
      · have n1 := (numberIn_no (P := P) hg hn (k := k) (by omega) hb).own
        generalize D.lst [.str a, .str b, .str d] = L at *
        simp [fDeedIn, startS, bk, bmD, sp, lo, eqM_int, i0, i1, ni', n1]
      · have n1 := (numberIn_ok (P := P) hg hn (k := k) (by omega) hm).own
        have n2 := (numberIn_no (P := P) hg hn (k := k) (by omega) hb).own
        generalize D.lst [.str a, .str (TL.numL m), .str d] = L at *
        generalize TL.numL m = B at *
        simp [fDeedIn, startS, bk, bmD, sp, lo, eqM_int, i0, i1, i2, ni', n1, n2]
theorem compL_exn {bind : D → Option Sl} {e : Sl → Hh → Out D} {c : Nat} {M : Hh} (f : List Nat → D) (h : List Nat → D) : ∀ (xs : List (List Nat)) (acc : List D) (y : List Nat) (r : List D),
    (∀ x ∈ xs, ∃ σ, bind (f x) = some σ ∧ e σ M = .ok (h x) M) → (∃ σ, bind (f y) = some σ ∧ e σ M = .exn c [] M) → compL bind (fun _ M => .ok (.bl true) M) e [] (xs.map f ++ f y :: r) acc M = .exn c [] M
  | [], acc, y, r, _, hy => by
    obtain ⟨σ, e1, e2⟩ := hy
    rw [List.map_nil, List.nil_append]
    unfold compL
    rw [if_pos (by simp), e1]
    simp [e2]
  | x :: xs, acc, y, r, hx, hy => by
    obtain ⟨σ, e1, e2⟩ := hx x List.mem_cons_self
    have ih := compL_exn f h xs (acc ++ [h x]) y r (fun z hz => hx z (List.mem_cons_of_mem _ hz)) hy
    rw [List.map_cons, List.cons_append]
    unfold compL
    rw [if_pos (by simp), e1]
    simp [e2, ih]
def fReadX (di c : Nat) : Fn := ⟨1, 2, [
  .ite (.not (.isi (.var 0) [.str])) [
    .raise c []] [],
  .ite (.cmp .eq (.var 0) (.lit (.str []))) [
    .ret (.lst false [])] [],
  .retX false [1] .seq [(.bm false .split (.var 0) [(.lit (.str [59, 32]))])] (.call true di [(.var 1)])]⟩
theorem readX_not {di c : Nat} (h : T[n]? = some (fReadX di c)) {k : Nat} {d : D} {M : Hh} (ti : isTys P M d [.str] = some false) : run P T (k + 1) n [d] M = .exn c [] M := by
  rw [run_succ h rfl]
  simp [fReadX, startS, ti]
theorem readX_no {g c ni di : Nat} (hg : P.gl[g]? = some (.str figsT)) (hn : T[ni]? = some (fNumberIn g c)) (hd : T[di]? = some (fDeedIn ni c)) (h : T[n]? = some (fReadX di c)) {k : Nat} (hk : 2 ≤ k) {t : List Nat} (ht : Txt t) (ne : t ≠ []) {pl : List Deed} (hs : ∀ d ∈ pl, SmD d) {p : List Nat} {r : List (List Nat)}
    (e : TL.spl [59, 32] 0 [] t = pl.map rowL ++ p :: r) (hb : DeedBad p) (M : Hh) : run P T (k + 1) n [.str t] M = .exn c [] M := by
  have hp : Txt p := by
    have hm : p ∈ TL.spl [59, 32] 0 [] t := by rw [e]; simp
    obtain ⟨g1, g2⟩ := spl_mem [59, 32] t 0 [] p hm
    simp only [List.length_nil] at g1
    refine ⟨by have := ht.len; omega, fun x hx => ?_⟩
    rcases g2 x hx with z | z
    · cases z
    · exact ht.ch x z
  have sp : ∀ M, splitD false (.str t) [.str [59, 32]] M = .ok (.lst ((TL.spl [59, 32] 0 [] t).map D.str)) M := fun M => split_any ht false (by decide) M
  have ll := spl_len [59, 32] t 0 []
  rw [e] at sp ll
  have ts : ∀ M, isTys P M (.str t) [.str] = some true := fun _ => rfl
  have q : ∀ M, eqM M (.str t) (.str []) = some false := fun M => by
    unfold eqM
    simp [plain, eqD, ne]
  have bk : ∀ M, bmOk .split (.str t) M = true := fun _ => rfl
  have c1 : ∀ s1 (M : Hh), compL (fun x => bindTg [1] x [some (.str t), s1]) (fun _ M => .ok (.bl true) M) (evE P (run P T k) (.call true di [(.var 1)])) [] ((pl.map rowL ++ p :: r).map D.str) [] M = .exn c [] M := by
    intro s1 M
    rw [List.map_append, List.map_cons]
    refine compL_exn D.str (fun x => if hx : ∃ d ∈ pl, x = rowL d then deedD hx.choose else .non) (pl.map rowL) [] p (r.map D.str) (fun x hx => ?_) ⟨[some (.str t), some (.str p)], rfl, ?_⟩
    · obtain ⟨d, hd', rfl⟩ := List.mem_map.mp hx
      have hx2 : ∃ d' ∈ pl, rowL d = rowL d' := ⟨d, hd', rfl⟩
      refine ⟨[some (.str t), some (.str (rowL d))], rfl, ?_⟩
      rw [dif_pos hx2]
      have e1 := (deedIn_ok (P := P) hg hn hd (k := k) hk (hs _ hx2.choose_spec.1)).own
      rw [← hx2.choose_spec.2] at e1
      generalize deedD hx2.choose = R0 at *
      generalize rowL d = R at *
      simp [e1]
    · have e1 := (deedIn_no (P := P) hg hn hd (k := k) hk hp hb).own
      simp [e1]
  have it : ∀ M, itsD .seq [.lst ((pl.map rowL ++ p :: r).map D.str)] M = some ((pl.map rowL ++ p :: r).map D.str, []) := fun _ => rfl
  have ln : ¬ line < ((pl.map rowL ++ p :: r).map D.str).length := by rw [List.length_map, line_val]; have := ht.len; omega
  rw [run_succ h rfl]
  generalize (pl.map rowL ++ p :: r).map D.str = rd at *
  simp only [fReadX, startS, List.map_cons, List.map_nil, List.length_cons, List.length_nil, List.replicate, List.cons_append, List.nil_append]
  generalize D.str t = X at *
  simp [ts, q, ev_compX0, bk, bmD, sp, it, ln, c1, endX]
theorem spl_app (rest : List Nat) : ∀ (p : List Nat) (acc : List Nat), TL.spl [59, 32] 0 acc (p ++ ([59, 32] ++ rest)) = TL.spl [59, 32] 0 acc p ++ TL.spl [59, 32] 0 [] rest
  | [], acc => by
    rw [TL.spl_nil, List.nil_append]
    have e1 : TL.pre [59, 32] (59 :: 32 :: rest) = true := by simp [TL.pre]
    show (if TL.pre [59, 32] (59 :: 32 :: rest) = true then acc :: TL.spl [59, 32] ([59, 32].length - 1) [] (32 :: rest) else _) = _
    rw [if_pos e1]
    rfl
  | [c], acc => by
    have e1 : TL.pre [59, 32] (c :: 59 :: 32 :: rest) = false := by
      simp [TL.pre]
    have e2 : TL.pre [59, 32] [c] = false := by
      simp [TL.pre]
    have ih := spl_app rest [] (acc ++ [c])
    rw [List.nil_append] at ih
    show (if TL.pre [59, 32] (c :: 59 :: 32 :: rest) = true then _ else TL.spl [59, 32] 0 (acc ++ [c]) ([59, 32] ++ rest)) = (if TL.pre [59, 32] [c] = true then _ else TL.spl [59, 32] 0 (acc ++ [c]) []) ++ _
    rw [e1, e2, if_neg (by simp), if_neg (by simp), ih]
  | c :: d :: p, acc => by
    have e1 : TL.pre [59, 32] (c :: d :: (p ++ ([59, 32] ++ rest))) = TL.pre [59, 32] (c :: d :: p) := by
      simp [TL.pre]
    show (if TL.pre [59, 32] (c :: d :: (p ++ ([59, 32] ++ rest))) = true then acc :: TL.spl [59, 32] 1 [] (d :: (p ++ ([59, 32] ++ rest))) else TL.spl [59, 32] 0 (acc ++ [c]) (d :: p ++ ([59, 32] ++ rest))) = (if TL.pre [59, 32] (c :: d :: p) = true then acc :: TL.spl [59, 32] 1 [] (d :: p) else TL.spl [59, 32] 0 (acc ++ [c]) (d :: p)) ++ _
    rw [e1]
    split
    · have ih := spl_app rest p []
      show acc :: TL.spl [59, 32] 0 [] (p ++ ([59, 32] ++ rest)) = (acc :: TL.spl [59, 32] 0 [] p) ++ _
      rw [ih]
      rfl
    · exact spl_app rest (d :: p) (acc ++ [c])
theorem spl_rows {pl : List Deed} (hp : pl ≠ []) : TL.spl [59, 32] 0 [] (planL pl) = pl.map rowL :=
  TL.spl_join (S := [32]) (by simpa using hp) fun p h hm => by
    obtain ⟨d, _, rfl⟩ := List.mem_map.mp h
    have := rowL_mem hm
    omega
theorem planL_ne {pl : List Deed} (hp : pl ≠ []) : planL pl ≠ [] := by
  cases pl with
  | nil => exact absurd rfl hp
  | cons d r =>
    unfold planL
    cases r with
    | nil => exact rowL_ne d
    | cons d2 r2 =>
      intro z
      have z : rowL d ++ ([59, 32] ++ TL.joinL [59, 32] ((d2 :: r2).map rowL)) = [] := z
      simp at z
theorem planL_txt {pl : List Deed} (hs : ∀ d ∈ pl, SmD d) (hl : pl.length ≤ 5000) : Txt (planL pl) := by
  have hlen := planL_len hs hl
  refine ⟨Nat.le_trans hlen (by decide), fun x hx => ?_⟩
  have go : ∀ (ps : List (List Nat)), (∀ p ∈ ps, ∀ y ∈ p, y < 1114112) → ∀ y ∈ TL.joinL [59, 32] ps, y < 1114112 := by
    intro ps h
    induction ps with
    | nil => intro y hy; cases hy
    | cons a r ih =>
      intro y hy
      cases r with
      | nil => exact h a (by simp) y hy
      | cons b r =>
        have hy : y ∈ a ++ ([59, 32] ++ TL.joinL [59, 32] (b :: r)) := hy
        rcases List.mem_append.mp hy with z | z
        · exact h a (by simp) y z
        · rcases List.mem_append.mp z with z | z
          · simp only [List.mem_cons, List.not_mem_nil, or_false] at z
            omega
          · exact ih (fun p hp => h p (List.mem_cons_of_mem _ hp)) y z
  refine go _ (fun p hp y hy => ?_) x hx
  obtain ⟨d, _, rfl⟩ := List.mem_map.mp hp
  have := rowL_mem hy
  omega
theorem readX_ok {g c ni di : Nat} (hg : P.gl[g]? = some (.str figsT)) (hn : T[ni]? = some (fNumberIn g c)) (hd : T[di]? = some (fDeedIn ni c)) (h : T[n]? = some (fReadX di c)) {k : Nat} (hk : 2 ≤ k) {pl : List Deed} (hp : pl ≠ []) (hs : ∀ d ∈ pl, SmD d) (hl : pl.length ≤ 5000) (M : Hh) :
    run P T (k + 1) n [.str (planL pl)] M = .ok (.lst (pl.map deedD)) M := by
  have ne := planL_ne hp
  have sp : ∀ M, splitD false (.str (planL pl)) [.str [59, 32]] M = .ok (.lst ((pl.map rowL).map D.str)) M := fun M => by
    rw [split_any (planL_txt hs hl) false (by decide) M, spl_rows hp]
    rfl
  have ts : ∀ M, isTys P M (.str (planL pl)) [.str] = some true := fun _ => rfl
  have q : ∀ M, eqM M (.str (planL pl)) (.str []) = some false := fun M => by
    unfold eqM
    simp [plain, eqD, ne]
  have bk : ∀ M, bmOk .split (.str (planL pl)) M = true := fun _ => rfl
  have c1 : ∀ s1 (M : Hh), compL (fun x => bindTg [1] x [some (.str (planL pl)), s1]) (fun _ M => .ok (.bl true) M) (evE P (run P T k) (.call true di [(.var 1)])) [] ((pl.map rowL).map D.str) [] M = .ok (pl.map deedD) M := by
    intro s1 M
    rw [List.map_map, compL_of (D.str ∘ rowL) (fun _ => true) deedD (by simp)]
    · rw [List.nil_append, List.filter_eq_self.mpr (fun _ _ => rfl)]
    · intro d hd'
      refine ⟨[some (.str (planL pl)), some (.str (rowL d))], rfl, rfl, fun _ => ?_⟩
      have e := (deedIn_ok (P := P) hg hn hd (k := k) hk (hs d hd')).own
      generalize planL pl = L at *
      generalize rowL d = R at *
      simp [e]
  have it : ∀ M, itsD .seq [.lst ((pl.map rowL).map D.str)] M = some ((pl.map rowL).map D.str, []) := fun _ => rfl
  have ln : ¬ line < ((pl.map rowL).map D.str).length := by rw [List.length_map, List.length_map, line_val]; omega
  rw [run_succ h rfl]
  generalize (pl.map rowL).map D.str = rd at *
  generalize pl.map deedD = pd at *
  simp only [fReadX, startS, List.map_cons, List.map_nil, List.length_cons, List.length_nil, List.replicate, List.cons_append, List.nil_append]
  generalize D.str (planL pl) = X at *
  simp [ts, q, ev_compX0, bk, bmD, sp, it, ln, c1, endX, mkL]
end
end Fw
namespace LawK25
open PySem Fw
theorem hg0 : P.gl[0]? = some (.str figsT) := rfl
theorem refused_ok {k : Nat} {d : D} {M : Hh} (e : Fw.run P T k 5 [d] M = .exn 4 [] M) : Fw.run P T (k + 1) 11 [d] M = .ok (.bl true) M := by
  have ok4 : P.ok 4 = true := rfl
  have su : P.sup 4 0 = true := rfl
  have t1 : ∀ M, isTys P M (.exc 4 []) [.cls 4] = some true := fun _ => rfl
  have t2 : ∀ M, isTys P M (.exc 4 []) [.valErr] = some true := fun _ => rfl
  have t3 : ∀ M, isTys P M (.exc 4 []) [.cls 1, .cls 14, .cls 2, .cls 3, .cls 15, .cls 5, .cls 6] = some false := fun _ => rfl
  have t4 : ∀ M, isTys P M (.exc 4 []) [.cls 7, .cls 8, .cls 9, .cls 10, .cls 11, .cls 12, .cls 13] = some false := fun _ => rfl
  rw [run_succ (F := F11) rfl rfl]
  show endS (exSs P (Fw.run P T k) F11.body [some d, none, none] M) = _
  simp [F11, e, catchS, ok4, su, t1, t2, t3, t4]
theorem not_ok {k : Nat} {d : D} {M : Hh} (ti : isTys P M d [.str] = some false) : Fw.run P T (k + 2) 11 [d] M = .ok (.bl true) M :=
  refused_ok (k := k + 1) (readX_not (P := P) (T := T) (n := 5) (di := 4) (c := 4) rfl ti)
theorem no_ok {k : Nat} (hk : 2 ≤ k) {t : List Nat} (ht : Txt t) (ne : t ≠ []) {pl : List Deed} (hs : ∀ d ∈ pl, SmD d) {p : List Nat} {r : List (List Nat)} (e : TL.spl [59, 32] 0 [] t = pl.map rowL ++ p :: r) (hb : DeedBad p) (M : Hh) : Fw.run P T (k + 2) 11 [.str t] M = .ok (.bl true) M :=
  refused_ok (k := k + 1) (readX_no (P := P) (T := T) (n := 5) (di := 4) (ni := 3) (g := 0) (c := 4) hg0 rfl rfl rfl hk ht ne hs e hb M)
end LawK25
namespace LawK25
open PySem Fw
theorem wds_join {ws : List (List Nat)} (ne : ws ≠ []) (hf : ∀ w ∈ ws, 32 ∉ w) : wdsT (TL.joinL [32] ws) = ws := TL.spl_join (S := []) ne hf
def BadT (t : List Nat) : Prop := ∃ (pl : List Deed) (p : List Nat) (r : List (List Nat)), (∀ d ∈ pl, SmD d) ∧ TL.spl [59, 32] 0 [] t = pl.map rowL ++ p :: r ∧ DeedBad p
theorem spl_past : ∀ (x : List Nat), 59 ∉ x → ∀ (acc y : List Nat), TL.spl [59, 32] 0 acc (x ++ y) = TL.spl [59, 32] 0 (acc ++ x) y
  | [], _, acc, y => by simp
  | c :: x, h, acc, y => by
    have hc : c ≠ 59 := fun z => h (by simp [z])
    have e : TL.pre [59, 32] (c :: (x ++ y)) = false := by
      simp [TL.pre, hc]
    show (if TL.pre [59, 32] (c :: (x ++ y)) = true then _ else TL.spl [59, 32] 0 (acc ++ [c]) (x ++ y)) = _
    rw [if_neg (by rw [e]; simp), spl_past x (fun z => h (List.mem_cons_of_mem _ z)) (acc ++ [c]) y, List.append_assoc]
    rfl
theorem spl_semi {y : List Nat} (h : y.head? ≠ some 32) (acc : List Nat) : TL.spl [59, 32] 0 acc (59 :: y) = TL.spl [59, 32] 0 (acc ++ [59]) y := by
  have e : TL.pre [59, 32] (59 :: y) = false := by
    cases y with
    | nil => rfl
    | cons a r =>
      have : a ≠ 32 := fun z => h (by rw [z]; rfl)
      simp [TL.pre, this]
  show (if TL.pre [59, 32] (59 :: y) = true then _ else TL.spl [59, 32] 0 (acc ++ [59]) y) = _
  rw [if_neg (by rw [e]; simp)]
theorem spl_one {x : List Nat} (h : 59 ∉ x) : TL.spl [59, 32] 0 [] x = [x] := by
  have := spl_past x h [] []
  rw [List.append_nil, TL.spl_nil] at this
  simpa using this
theorem bad_one {t : List Nat} (h : TL.spl [59, 32] 0 [] t = [t]) (hb : DeedBad t) : BadT t := ⟨[], t, [], (fun _ h => by cases h), (by rw [h]; rfl), hb⟩
theorem bad_len {ws : List (List Nat)} (ne : ws ≠ []) (hf : ∀ w ∈ ws, 32 ∉ w) (h3 : ws.length ≠ 3) : DeedBad (TL.joinL [32] ws) := .inl (by rw [wds_join ne hf]; exact h3)
theorem bad_word {a b d : List Nat} (hf : ∀ w ∈ [a, b, d], 32 ∉ w) (h : wordOk a = false) : DeedBad (TL.joinL [32] [a, b, d]) := .inr ⟨a, b, d, wds_join (by simp) hf, .inl h⟩
theorem bad_num1 {a b d : List Nat} (hf : ∀ w ∈ [a, b, d], 32 ∉ w) (h : numOk b = false) : DeedBad (TL.joinL [32] [a, b, d]) := .inr ⟨a, b, d, wds_join (by simp) hf, .inr (.inl h)⟩
theorem bad_num2 {a d : List Nat} {m : Nat} (hm : m < 10 ^ 70) (hf : ∀ w ∈ [a, TL.numL m, d], 32 ∉ w) (h : numOk d = false) : DeedBad (TL.joinL [32] [a, TL.numL m, d]) := .inr ⟨a, _, d, wds_join (by simp) hf, .inr (.inr ⟨m, hm, rfl, h⟩)⟩
theorem num_sign {t : List Nat} {c : Nat} (hc : c ∈ t) (h : figsT.contains c = false) : numOk t = false := by
  have : (t.all fun c => figsT.contains c) = false := by
    rw [List.all_eq_false]
    exact ⟨c, hc, by rw [h]; simp⟩
  unfold numOk
  rw [this, Bool.and_false]
theorem num_nought {t : List Nat} (h : t ≠ []) : numOk (48 :: t) = false := by
  have h2 : 1 < (48 :: t).length := by
    have := List.length_pos_iff.mpr h
    simp only [List.length_cons]
    omega
  unfold numOk
  rw [decide_eq_true h2]
  simp
end LawK25
namespace LawK25
open PySem Fw
theorem join_mem {x : Nat} : ∀ {ps : List (List Nat)}, x ∈ TL.joinL [32] ps → x = 32 ∨ ∃ p ∈ ps, x ∈ p
  | [], h => by cases h
  | [a], h => .inr ⟨a, by simp, h⟩
  | a :: b :: r, h => by
    have h : x ∈ a ++ ([32] ++ TL.joinL [32] (b :: r)) := h
    rcases List.mem_append.mp h with z | z
    · exact .inr ⟨a, by simp, z⟩
    · rcases List.mem_append.mp z with z | z
      · simp at z; exact .inl z
      · rcases join_mem z with z | ⟨p, hp, z⟩
        · exact .inl z
        · exact .inr ⟨p, List.mem_cons_of_mem _ hp, z⟩
theorem k_join {t : List Nat} {ws : List (List Nat)} (e : t = TL.joinL [32] ws) (h59 : ∀ w ∈ ws, 59 ∉ w) (hb : DeedBad (TL.joinL [32] ws)) : BadT t := by
  subst e
  refine bad_one (spl_one fun h => ?_) hb
  rcases join_mem h with z | ⟨p, hp, z⟩
  · cases z
  · exact h59 p hp z
structure Row (w o u : List Nat) (m : Nat) : Prop where
  hw : w = [108, 105, 110, 101] ∨ w = [112, 101, 103]
  om : o = TL.numL m
  hm : m < 10 ^ 70
  ho : ∀ x ∈ o, 48 ≤ x ∧ x ≤ 57
  hu : ∀ x ∈ u, 48 ≤ x ∧ x ≤ 57
  on : o ≠ []
  un : u ≠ []
section
variable {w o u : List Nat} {m : Nat} (R : Row w o u m)
include R
theorem Row.no (c : Nat) (hc : c = 32 ∨ c = 59) : c ∉ w ∧ c ∉ o ∧ c ∉ u := by
  refine ⟨fun h => ?_, fun h => by have := R.ho c h; omega, fun h => by have := R.hu c h; omega⟩
  rcases R.hw with e | e <;> rw [e] at h <;> rcases hc with rfl | rfl <;> simp at h
theorem kinds_a : BadT [] ∧ BadT [32] ∧ BadT w ∧ BadT (w ++ [32] ++ o) ∧ BadT (w ++ [32] ++ o ++ [32] ++ u ++ [32, 48]) ∧ BadT ([108, 105, 110, 101, 115, 32] ++ o ++ [32] ++ u) ∧ BadT ([76, 105, 110, 101, 32] ++ o ++ [32] ++ u) := by
  obtain ⟨w1, o1, u1⟩ := R.no 32 (.inl rfl)
  obtain ⟨w2, o2, u2⟩ := R.no 59 (.inr rfl)
  refine ⟨?_, ?_, ?_, ?_, ?_, ?_, ?_⟩
  · exact k_join (ws := [[]]) rfl (by simp) (bad_len (by simp) (by simp) (by simp))
  · exact k_join (ws := [[], []]) rfl (by simp) (bad_len (by simp) (by simp) (by simp))
  · exact k_join (ws := [w]) rfl (by simp [w2]) (bad_len (by simp) (by simp [w1]) (by simp))
  · exact k_join (ws := [w, o]) (by simp [TL.joinL]) (by simp [w2, o2]) (bad_len (by simp) (by simp [w1, o1]) (by simp))
  · exact k_join (ws := [w, o, u, [48]]) (by simp [TL.joinL]) (by simp [w2, o2, u2]) (bad_len (by simp) (by simp [w1, o1, u1]) (by simp))
  · exact k_join (ws := [[108, 105, 110, 101, 115], o, u]) (by simp [TL.joinL]) (by simp [o2, u2]) (bad_word (by simp [o1, u1]) rfl)
  · exact k_join (ws := [[76, 105, 110, 101], o, u]) (by simp [TL.joinL]) (by simp [o2, u2]) (bad_word (by simp [o1, u1]) rfl)
theorem kinds_b : BadT (w ++ [32, 48] ++ o ++ [32] ++ u) ∧ BadT (w ++ [32] ++ o ++ [32, 48] ++ u) ∧ BadT (w ++ [32, 45] ++ o ++ [32] ++ u) ∧ BadT (w ++ [32] ++ o ++ [32, 32] ++ u) ∧ BadT ([32] ++ (w ++ [32] ++ o ++ [32] ++ u)) ∧ BadT (w ++ [32] ++ o ++ [32] ++ u ++ [32]) := by
  obtain ⟨w1, o1, u1⟩ := R.no 32 (.inl rfl)
  obtain ⟨w2, o2, u2⟩ := R.no 59 (.inr rfl)
  have hm := R.hm
  have om := R.om
  refine ⟨?_, ?_, ?_, ?_, ?_, ?_⟩
  · exact k_join (ws := [w, 48 :: o, u]) (by simp [TL.joinL]) (by simp [w2, o2, u2]) (bad_num1 (by simp [w1, o1, u1]) (num_nought R.on))
  · refine k_join (ws := [w, o, 48 :: u]) (by simp [TL.joinL]) (by simp [w2, o2, u2]) ?_
    have un := R.un
    subst om
    exact bad_num2 hm (by simp [w1, o1, u1]) (num_nought un)
  · exact k_join (ws := [w, 45 :: o, u]) (by simp [TL.joinL]) (by simp [w2, o2, u2]) (bad_num1 (by simp [w1, o1, u1]) (num_sign (c := 45) (by simp) rfl))
  · exact k_join (ws := [w, o, [], u]) (by simp [TL.joinL]) (by simp [w2, o2, u2]) (bad_len (by simp) (by simp [w1, o1, u1]) (by simp))
  · exact k_join (ws := [[], w, o, u]) (by simp [TL.joinL]) (by simp [w2, o2, u2]) (bad_len (by simp) (by simp [w1, o1, u1]) (by simp))
  · exact k_join (ws := [w, o, u, []]) (by simp [TL.joinL]) (by simp [w2, o2, u2]) (bad_len (by simp) (by simp [w1, o1, u1]) (by simp))
theorem Row.noW : wordOk o = false ∧ wordOk (w.drop 1) = false := by
  constructor
  · unfold wordOk
    rw [decide_eq_false fun e => ?_, decide_eq_false fun e => ?_]
    · rfl
    · have := R.ho 112 (by rw [e]; simp); omega
    · have := R.ho 108 (by rw [e]; simp); omega
  · rcases R.hw with e | e <;> rw [e] <;> rfl
theorem kinds_c : BadT (o ++ [32] ++ w ++ [32] ++ u) ∧ BadT (w ++ [32, 43] ++ o ++ [32] ++ u) ∧ BadT (w ++ [32] ++ o ++ [32] ++ u ++ [10]) ∧ BadT (w ++ [9] ++ o ++ [32] ++ u) ∧ BadT ([108, 97, 110, 101, 32] ++ o ++ [32] ++ u) ∧ BadT ([112, 97, 103, 32] ++ o ++ [32] ++ u) ∧ BadT (w.drop 1 ++ [32] ++ o ++ [32] ++ u) ∧ BadT (w ++ [32] ++ o ++ [95, 48, 32] ++ u) := by
  obtain ⟨w1, o1, u1⟩ := R.no 32 (.inl rfl)
  obtain ⟨w2, o2, u2⟩ := R.no 59 (.inr rfl)
  obtain ⟨n1, n2⟩ := R.noW
  have hm := R.hm
  have om := R.om
  have wd : ∀ c, c ∉ w → c ∉ w.drop 1 := fun c h z => h (List.mem_of_mem_drop z)
  have w3 := wd 32 w1
  have w4 := wd 59 w2
  refine ⟨?_, ?_, ?_, ?_, ?_, ?_, ?_, ?_⟩
  · exact k_join (ws := [o, w, u]) (by simp [TL.joinL]) (by simp [w2, o2, u2]) (bad_word (by simp [w1, o1, u1]) n1)
  · exact k_join (ws := [w, 43 :: o, u]) (by simp [TL.joinL]) (by simp [w2, o2, u2]) (bad_num1 (by simp [w1, o1, u1]) (num_sign (c := 43) (by simp) rfl))
  · refine k_join (ws := [w, o, u ++ [10]]) (by simp [TL.joinL]) (by simp [w2, o2, u2]) ?_
    subst om
    exact bad_num2 hm (by simp [w1, o1, u1]) (num_sign (c := 10) (by simp) rfl)
  · exact k_join (ws := [w ++ 9 :: o, u]) (by simp [TL.joinL]) (by simp [w2, o2, u2]) (bad_len (by simp) (by simp [w1, o1, u1]) (by simp))
  · exact k_join (ws := [[108, 97, 110, 101], o, u]) (by simp [TL.joinL]) (by simp [o2, u2]) (bad_word (by simp [o1, u1]) rfl)
  · exact k_join (ws := [[112, 97, 103], o, u]) (by simp [TL.joinL]) (by simp [o2, u2]) (bad_word (by simp [o1, u1]) rfl)
  · refine k_join (ws := [w.drop 1, o, u]) (by simp [TL.joinL]) ?_ (bad_word ?_ n2)
    · intro x hx
      simp only [List.mem_cons, List.not_mem_nil, or_false] at hx
      rcases hx with rfl | rfl | rfl <;> assumption
    · intro x hx
      simp only [List.mem_cons, List.not_mem_nil, or_false] at hx
      rcases hx with rfl | rfl | rfl <;> assumption
  · exact k_join (ws := [w, o ++ [95, 48], u]) (by simp [TL.joinL]) (by simp [w2, o2, u2]) (bad_num1 (by simp [w1, o1, u1]) (num_sign (c := 95) (by simp) rfl))
end
end LawK25
namespace LawK25
open PySem Fw
theorem semi_one {x y : List Nat} (hx : 59 ∉ x) (hy : 59 ∉ y) (h : y.head? ≠ some 32) : TL.spl [59, 32] 0 [] (x ++ 59 :: y) = [x ++ 59 :: y] := by
  rw [spl_past x hx, spl_semi h]
  have := spl_past y hy ([] ++ x ++ [59]) []
  rw [List.append_nil, TL.spl_nil] at this
  rw [this]
  simp
section
variable {w o u : List Nat} {m : Nat} (R : Row w o u m)
include R
theorem row59 : 59 ∉ w ++ [32] ++ o ++ [32] ++ u := by
  obtain ⟨w2, o2, u2⟩ := R.no 59 (.inr rfl)
  simp [w2, o2, u2]
theorem row_head : (w ++ [32] ++ o ++ [32] ++ u).head? ≠ some 32 := by
  rcases R.hw with e | e <;> rw [e] <;> simp
theorem kind18 {c : Nat} (hc : c ≠ 32) (hf : figsT.contains c = false) : BadT (w ++ [32] ++ o ++ [32] ++ u ++ [c]) := by
  obtain ⟨w1, o1, u1⟩ := R.no 32 (.inl rfl)
  obtain ⟨w2, o2, u2⟩ := R.no 59 (.inr rfl)
  have hm := R.hm
  have om := R.om
  have e : w ++ [32] ++ o ++ [32] ++ u ++ [c] = TL.joinL [32] [w, o, u ++ [c]] := by simp [TL.joinL]
  have db : DeedBad (TL.joinL [32] [w, o, u ++ [c]]) := by
    subst om
    exact bad_num2 hm (by simp [w1, o1, u1, Ne.symm hc]) (num_sign (c := c) (by simp) hf)
  by_cases h : c = 59
  · subst h
    have := semi_one (y := []) (row59 R) (by simp) (by simp)
    rw [← e] at db
    exact bad_one this db
  · exact k_join e (by simp [w2, o2, u2, Ne.symm h]) db
theorem kind17 {c : Nat} (hc : c ≠ 32) : BadT ([c] ++ (w ++ [32] ++ o ++ [32] ++ u)) := by
  obtain ⟨w1, o1, u1⟩ := R.no 32 (.inl rfl)
  obtain ⟨w2, o2, u2⟩ := R.no 59 (.inr rfl)
  have e : [c] ++ (w ++ [32] ++ o ++ [32] ++ u) = TL.joinL [32] [c :: w, o, u] := by simp [TL.joinL]
  have wo : wordOk (c :: w) = false := by
    rcases R.hw with e | e <;> rw [e] <;> simp [wordOk]
  have db : DeedBad (TL.joinL [32] [c :: w, o, u]) := bad_word (by simp [w1, o1, u1, Ne.symm hc]) wo
  by_cases h : c = 59
  · subst h
    have := semi_one (x := []) (by simp) (row59 R) (row_head R)
    rw [← e] at db
    exact bad_one this db
  · exact k_join e (by simp [w2, o2, u2, Ne.symm h]) db
theorem kind14 : BadT (w ++ [32] ++ o ++ [32] ++ u ++ [59] ++ (w ++ [32] ++ o ++ [32] ++ u)) := by
  obtain ⟨w1, o1, u1⟩ := R.no 32 (.inl rfl)
  have e : w ++ [32] ++ o ++ [32] ++ u ++ [59] ++ (w ++ [32] ++ o ++ [32] ++ u) = TL.joinL [32] [w, o, u ++ 59 :: w, o, u] := by simp [TL.joinL]
  have db : DeedBad (TL.joinL [32] [w, o, u ++ 59 :: w, o, u]) := bad_len (by simp) (by simp [w1, o1, u1]) (by simp)
  rw [← e] at db
  have := semi_one (row59 R) (row59 R) (row_head R)
  refine bad_one ?_ db
  rw [show w ++ [32] ++ o ++ [32] ++ u ++ [59] ++ (w ++ [32] ++ o ++ [32] ++ u) = (w ++ [32] ++ o ++ [32] ++ u) ++ 59 :: (w ++ [32] ++ o ++ [32] ++ u) by simp]
  exact this
theorem kind16 {c : Nat} (hc : c ≠ 32) (hf : figsT.contains c = false) : BadT (w ++ [32] ++ o ++ [c] ++ [32] ++ u) := by
  obtain ⟨w1, o1, u1⟩ := R.no 32 (.inl rfl)
  obtain ⟨w2, o2, u2⟩ := R.no 59 (.inr rfl)
  by_cases h : c = 59
  · subst h
    have e : w ++ [32] ++ o ++ [59] ++ [32] ++ u = (w ++ [32] ++ o) ++ ([59, 32] ++ u) := by simp
    refine ⟨[], w ++ [32] ++ o, TL.spl [59, 32] 0 [] u, (fun _ h => by cases h), ?_, ?_⟩
    · rw [e, spl_app, spl_one (by simp [w2, o2])]
      rfl
    · have e2 : w ++ [32] ++ o = TL.joinL [32] [w, o] := by simp [TL.joinL]
      rw [e2]
      exact bad_len (by simp) (by simp [w1, o1]) (by simp)
  · exact k_join (ws := [w, o ++ [c], u]) (by simp [TL.joinL]) (by simp [w2, o2, u2, Ne.symm h]) (bad_num1 (by simp [w1, o1, u1, Ne.symm hc]) (num_sign (c := c) (by simp) hf))
theorem kind26 : BadT ([59, 32] ++ (w ++ [32] ++ o ++ [32] ++ u)) := by
  refine ⟨[], [], TL.spl [59, 32] 0 [] (w ++ [32] ++ o ++ [32] ++ u), (fun _ h => by cases h), ?_, ?_⟩
  · have := spl_app (w ++ [32] ++ o ++ [32] ++ u) [] []
    rw [List.nil_append, TL.spl_nil] at this
    rw [this]
    rfl
  · exact bad_len (ws := [[]]) (by simp) (by simp) (by simp)
theorem kind15 {d : Deed} (hd : SmD d) (e : w ++ [32] ++ o ++ [32] ++ u = rowL d) : BadT (w ++ [32] ++ o ++ [32] ++ u ++ [59, 32]) := by
  refine ⟨[d], [], [], (fun x hx => by rw [List.mem_singleton.mp hx]; exact hd), ?_, bad_len (ws := [[]]) (by simp) (by simp) (by simp)⟩
  have := spl_app [] (w ++ [32] ++ o ++ [32] ++ u) []
  rw [List.append_nil, spl_one (row59 R), TL.spl_nil] at this
  rw [this, e]
  rfl
end
end LawK25
namespace LawK25
open PySem Fw
theorem row_no59 (d : Deed) : 59 ∉ rowL d := fun h => by
  have := rowL_mem h
  omega
theorem pieces (bad : List Nat) (B : List Deed) : ∀ A : List Deed, TL.spl [59, 32] 0 [] (TL.joinL [59, 32] (A.map rowL ++ (bad :: B.map rowL))) = A.map rowL ++ (TL.spl [59, 32] 0 [] bad ++ B.map rowL)
  | [] => by
    cases B with
    | nil => simp [TL.joinL]
    | cons b B =>
      show TL.spl [59, 32] 0 [] (bad ++ ([59, 32] ++ TL.joinL [59, 32] ((b :: B).map rowL))) = _
      rw [spl_app]
      have := spl_rows (pl := b :: B) (by simp)
      unfold planL at this
      rw [this]
      rfl
  | a :: A => by
    have ih := pieces bad B A
    have e : TL.joinL [59, 32] ((a :: A).map rowL ++ (bad :: B.map rowL)) = rowL a ++ ([59, 32] ++ TL.joinL [59, 32] (A.map rowL ++ (bad :: B.map rowL))) := by
      cases A with
      | nil => rfl
      | cons b A => rfl
    rw [e, spl_app, spl_one (row_no59 a), ih]
    rfl
theorem whole_no {k : Nat} (hk : 2 ≤ k) {A B : List Deed} {bad : List Nat} (hA : ∀ d ∈ A, SmD d) (hb : BadT bad) (ht : Txt (TL.joinL [59, 32] (A.map rowL ++ (bad :: B.map rowL)))) (ne : TL.joinL [59, 32] (A.map rowL ++ (bad :: B.map rowL)) ≠ []) (M : Hh) : Fw.run P T (k + 2) 11 [.str (TL.joinL [59, 32] (A.map rowL ++ (bad :: B.map rowL)))] M = .ok (.bl true) M := by
  obtain ⟨pl, p, r, hs, e, db⟩ := hb
  refine no_ok hk ht ne (pl := A ++ pl) (p := p) (r := r ++ B.map rowL) (fun d hd => ?_) ?_ db M
  · rcases List.mem_append.mp hd with h | h
    · exact hA d h
    · exact hs d h
  · rw [pieces, e, List.map_append]
    simp
end LawK25
namespace LawK25
open PySem Fw
theorem number_ok {k : Nat} (hk : 1 ≤ k) {a b c : Int} (ha : 0 ≤ a ∧ a < 1000000) (hb : 0 ≤ b ∧ b < 1000000) : ∃ m : Nat, m < 10 ^ 70 ∧ Ev P T k 8 [.lst [.int a, .int b, .int c]] (.int (m : Int)) := by
  obtain ⟨k, rfl⟩ : ∃ j, k = j + 1 := ⟨k - 1, by omega⟩
  have i0 : ∀ M, idxD (.lst [.int a, .int b, .int c]) (.int 0) M = .ok (.int a) M := fun _ => rfl
  have i1 : ∀ M, idxD (.lst [.int a, .int b, .int c]) (.int 1) M = .ok (.int b) M := fun _ => rfl
  have i2 : ∀ M, idxD (.lst [.int a, .int b, .int c]) (.int 2) M = .ok (.int c) M := fun _ => rfl
  have m12 : ∀ M : Hh, binI .mod a 12 M = .ok (.int (a % 12)) M := fun M => binI_modP (by decide)
  have m3 : ∀ M : Hh, binI .mod c 3 M = .ok (.int (c % 3)) M := fun M => binI_modP (by decide)
  have p54 : ∀ M : Hh, binI .pow 10 54 M = .ok (.int 1000000000000000000000000000000000000000000000000000000) M := fun M => by rw [binI_pow (by decide)]; rfl
  have p30 : ∀ M : Hh, binI .pow 10 30 M = .ok (.int 1000000000000000000000000000000) M := fun M => by rw [binI_pow (by decide)]; rfl
  have u1 : ∀ M : Hh, binI .mul a 1000000000000000000000000000000000000000000000000000000 M = .ok (.int (a * 1000000000000000000000000000000000000000000000000000000)) M := fun M => binI_mul (mulOk_l (by omega))
  have u2 : ∀ M : Hh, binI .mul b 1000000000000000000000000000000 M = .ok (.int (b * 1000000000000000000000000000000)) M := fun M => binI_mul (mulOk_l (by omega))
  have e70 : (10 : Nat) ^ 70 = 10000000000000000000000000000000000000000000000000000000000000000000000 := by decide
  obtain ⟨v, hv, hx⟩ : ∃ v : Int, (0 ≤ v ∧ v < 10000000000000000000000000000000000000000000000000000000000000000000000) ∧ ∀ M, idxD (.lst [.int (a % 12), .int a, .int (a * 1000000000000000000000000000000000000000000000000000000 + b * 1000000000000000000000000000000 + 7)]) (.int (c % 3)) M = .ok (.int v) M := by
    rcases (by omega : c % 3 = 0 ∨ c % 3 = 1 ∨ c % 3 = 2) with h | h | h <;> rw [h]
    · exact ⟨a % 12, by omega, fun _ => rfl⟩
    · exact ⟨a, by omega, fun _ => rfl⟩
    · exact ⟨a * 1000000000000000000000000000000000000000000000000000000 + b * 1000000000000000000000000000000 + 7, by omega, fun _ => rfl⟩
  refine ⟨v.toNat, by rw [e70]; omega, ?_⟩
  have ev : ((v.toNat : Nat) : Int) = v := by omega
  rw [ev]
  refine Ev.of (F := F8) rfl rfl rfl ?_
  generalize D.lst [.int a, .int b, .int c] = L at *
  simp [F8, startS, i0, i1, i2, m12, m3, p54, p30, u1, u2, hx, -idx_lst]
end LawK25
namespace LawK25
open PySem Fw
def plB : List Fw.S := [
    .asg (.name 3) (.call true 7 [(.idx (.var 0) (.var 2)), (.var 2), (.lit (.int (7)))]),
    .expr (.bm false .append (.var 1) [(.tup [(.idx (.lst false [(.lit (.str [108, 105, 110, 101])), (.lit (.str [112, 101, 103]))]) (.bin false .mod (.idx (.var 3) (.lit (.int (0)))) (.lit (.int (2))))), (.call true 8 [(.sl false (.var 3) (.lit (.int (1))) (.lit (.int (4))))]), (.call true 8 [(.sl false (.var 3) (.lit (.int (4))) (.lit (.int (7))))])])])]
theorem plan_turn {k : Nat} (hk : 2 ≤ k) {cs : List Int} {j : Nat} (hj : j < cs.length) (h12 : cs.length ≤ 12) {pl : List Deed} (hl : pl.length ≤ 12) (s3 : Option D) : ∃ d t3, SmD d ∧ exSs P (Fw.run P T k) plB [some (.lst (cs.map D.int)), some (.ref 0), some (.int (j : Int)), s3] [.lst (pl.map deedD)] = .ok .nx [some (.lst (cs.map D.int)), some (.ref 0), some (.int (j : Int)), t3] [.lst ((pl ++ [d]).map deedD)] := by
  have ix : ∀ M, idxD (.lst (cs.map D.int)) (.int (j : Int)) M = .ok (.int (cs.getD j 0)) M := fun M => idx_ints hj M
  obtain ⟨zs, h7, hz, ez⟩ := digits_ok (P := P) (T := T) (n := 7) rfl (k := k) (by omega) (cs.getD j 0) (q := j) (many := 7) (by omega) (by decide)
  obtain ⟨z0, z1, z2, z3, z4, z5, z6, rfl⟩ : ∃ z0 z1 z2 z3 z4 z5 z6, zs = [z0, z1, z2, z3, z4, z5, z6] := by
    match zs, h7 with
    | [z0, z1, z2, z3, z4, z5, z6], _ => exact ⟨_, _, _, _, _, _, _, rfl⟩
  have ez : ∀ M, ownD (Fw.run P T k 7 [.int (cs.getD j 0), .int (j : Int), .int 7] []) M = .ok (.lst [.int z0, .int z1, .int z2, .int z3, .int z4, .int z5, .int z6]) M := ez.own
  obtain ⟨m1, hm1, e1⟩ := number_ok (k := k) (by omega) (c := z3) (hz z1 (by simp)) (hz z2 (by simp))
  obtain ⟨m2, hm2, e2⟩ := number_ok (k := k) (by omega) (c := z6) (hz z4 (by simp)) (hz z5 (by simp))
  have e1 := e1.own
  have e2 := e2.own
  have i0 : ∀ M, idxD (.lst [.int z0, .int z1, .int z2, .int z3, .int z4, .int z5, .int z6]) (.int 0) M = .ok (.int z0) M := fun _ => rfl
  have s1 : ∀ M, slD false (.lst [.int z0, .int z1, .int z2, .int z3, .int z4, .int z5, .int z6]) (.int 1) (.int 4) M = .ok (.lst [.int z1, .int z2, .int z3]) M := fun _ => rfl
  have s2 : ∀ M, slD false (.lst [.int z0, .int z1, .int z2, .int z3, .int z4, .int z5, .int z6]) (.int 4) (.int 7) M = .ok (.lst [.int z4, .int z5, .int z6]) M := fun _ => rfl
  have n1 : noRef (.lst [.int z1, .int z2, .int z3]) = true := rfl
  have n2 : noRef (.lst [.int z4, .int z5, .int z6]) = true := rfl
  have md : ∀ M : Hh, binI .mod z0 2 M = .ok (.int (z0 % 2)) M := fun M => binI_modP (by decide)
  obtain ⟨b, hb⟩ : ∃ b : Bool, ∀ M, idxD (.lst [.str [108, 105, 110, 101], .str [112, 101, 103]]) (.int (z0 % 2)) M = .ok (wordD b) M := by
    rcases (by omega : z0 % 2 = 0 ∨ z0 % 2 = 1) with h | h <;> rw [h]
    · exact ⟨false, fun _ => rfl⟩
    · exact ⟨true, fun _ => rfl⟩
  have ap : appendD (.ref 0) [.tup [wordD b, .int (m1 : Int), .int (m2 : Int)]] [.lst (pl.map deedD)] = .ok .non [.lst ((pl ++ [(b, m1, m2)]).map deedD)] := by
    have l1 : pl.length < line := line_pos _ (by omega)
    simp [appendD, l1, deedD]
  have ao : bmOk .append (.ref 0) [.lst (pl.map deedD)] = true := rfl
  refine ⟨(b, m1, m2), some (.lst [.int z0, .int z1, .int z2, .int z3, .int z4, .int z5, .int z6]), ⟨hm1, hm2⟩, ?_⟩
  generalize ([.lst ((pl ++ [(b, m1, m2)]).map deedD)] : Hh) = M2 at *
  generalize ([.lst (pl.map deedD)] : Hh) = M1 at *
  generalize D.lst [.int z0, .int z1, .int z2, .int z3, .int z4, .int z5, .int z6] = Z at *
  generalize D.lst [.int z1, .int z2, .int z3] = Z1 at *
  generalize D.lst [.int z4, .int z5, .int z6] = Z2 at *
  generalize D.lst (cs.map D.int) = cd at *
  generalize cs.getD j 0 = c at *
  generalize wordD b = W at *
  generalize (j : Int) = jj at *
  simp [plB, ix, ez, i0, s1, s2, n1, n2, md, hb, e1, e2, ao, bmD, ap, partD, partOk, isLN, -idx_lst]
end LawK25
namespace LawK25
open PySem Fw
theorem plan_ok {k : Nat} (hk : 3 ≤ k) {cs : List Int} (h12 : cs.length ≤ 12) : ∃ pl : List Deed, pl.length = cs.length ∧ (∀ d ∈ pl, SmD d) ∧ Ev P T k 9 [.lst (cs.map D.int)] (.lst (pl.map deedD)) := by
  obtain ⟨k, rfl⟩ : ∃ j, k = j + 1 := ⟨k - 1, by omega⟩
  obtain ⟨σ', M', e, ⟨pl, s2, s3, rfl, rfl, hl, hs⟩, _⟩ := forL_all (bind := bindTg [2]) (b := exSs P (Fw.run P T k) plB) (g := []) (fun r σ M => (∃ (pl : List Deed) (s2 s3 : Option D), σ = [some (.lst (cs.map D.int)), some (.ref 0), s2, s3] ∧ M = [.lst (pl.map deedD)] ∧ pl.length + r.length = cs.length ∧ ∀ d ∈ pl, SmD d) ∧ ∀ x ∈ r, ∃ j : Nat, j < cs.length ∧ x = .int (j : Int))
    (fun _ _ _ _ => by simp)
    (by
      rintro x r σ M ⟨⟨pl, s2, s3, rfl, rfl, hl, hs⟩, hx⟩
      obtain ⟨j, hj, rfl⟩ := hx x (by simp)
      rw [List.length_cons] at hl
      obtain ⟨d, t3, sd, et⟩ := plan_turn (k := k) (by omega) hj h12 (pl := pl) (by omega) s3
      refine ⟨_, _, _, rfl, .inl et, ⟨pl ++ [d], _, _, rfl, rfl, by rw [List.length_append]; simp; omega, fun q hq => ?_⟩, fun y hy => hx y (List.mem_cons_of_mem _ hy)⟩
      rcases List.mem_append.mp hq with hq | hq
      · exact hs q hq
      · rw [List.mem_singleton] at hq; rw [hq]; exact sd)
    ((List.range cs.length).map fun i : Nat => D.int (i : Int)) [some (.lst (cs.map D.int)), some (.ref 0), none, none] [.lst []]
    ⟨⟨[], _, _, rfl, rfl, by simp, fun _ h => by cases h⟩, by
      intro x hx
      obtain ⟨i, h, rfl⟩ := List.mem_map.mp hx
      exact ⟨i, List.mem_range.mp h, rfl⟩⟩
  have it : ∀ M, itsD .rng1 [.int (cs.length : Int)] M = some ((List.range cs.length).map fun i : Nat => D.int (i : Int), []) := its_rng (n := cs.length) (by omega)
  have ln : ∀ M, biD false .len [.lst (cs.map D.int)] M = .ok (.int (cs.length : Int)) M := fun M => by simp [biD, lenD, lenD1]
  have hl : pl.length = cs.length := by simpa using hl
  have nl : noRef (.lst (pl.map deedD)) = true := deeds_noRef pl
  refine ⟨pl, hl, hs, Ev.of' (F := F9) rfl rfl (d := .ref 0) (M' := [.lst (pl.map deedD)]) ?_ ?_ nl⟩
  · show endS (exSs P (Fw.run P T k) [.asg (.name 1) (.lst true []), .loop [2] .rng1 [(.bi false .len [(.var 0)])] plB, .ret (.var 1)] [some (.lst (cs.map D.int)), none, none, none] []) = _
    have a1 : exS P (Fw.run P T k) (.asg (.name 1) (.lst true [])) [some (.lst (cs.map D.int)), none, none, none] [] = .ok .nx [some (.lst (cs.map D.int)), some (.ref 0), none, none] [.lst []] := by simp [mkL]
    rw [ex_cons, a1, OutS.next_nx, ex_cons, ex_loop]
    simp only [ev_cons, ev_bi, ev_var, ev_nil, List.getElem?_cons_zero, Out.bind_ok, ln, Out.st_ok, it]
    rw [e, OutS.next_nx]
    simp
  · show D.lst ((pl.map deedD).map (snap _ 7)) = _
    rw [snap_noRefL 7 _ (deeds_noRef pl)]
end LawK25
namespace LawK25
open PySem Fw
def signsL : List Nat := [97, 98, 120, 76, 80, 46, 44, 59, 58, 43, 42, 45, 95, 47]
def bA (w o u r : List Nat) : List (List Nat) := [[], [32], w, w ++ [32] ++ o, r ++ [32, 48], [108, 105, 110, 101, 115, 32] ++ o ++ [32] ++ u, [76, 105, 110, 101, 32] ++ o ++ [32] ++ u]
def bB (w o u r : List Nat) : List (List Nat) := [w ++ [32, 48] ++ o ++ [32] ++ u, w ++ [32] ++ o ++ [32, 48] ++ u, w ++ [32, 45] ++ o ++ [32] ++ u]
def bC (w o u r : List Nat) : List (List Nat) := [w ++ [32] ++ o ++ [32, 32] ++ u, [32] ++ r, r ++ [32], r ++ [59], r ++ [59] ++ r, r ++ [59, 32]]
def bD (w o u r : List Nat) (c : Nat) : List (List Nat) := [w ++ [32] ++ o ++ [c] ++ [32] ++ u, [c] ++ r, r ++ [c], o ++ [32] ++ w ++ [32] ++ u]
def bE (w o u r : List Nat) : List (List Nat) := [w ++ [32, 43] ++ o ++ [32] ++ u, r ++ [10], w ++ [9] ++ o ++ [32] ++ u]
def bF (w o u r : List Nat) : List (List Nat) := [[108, 97, 110, 101, 32] ++ o ++ [32] ++ u, [112, 97, 103, 32] ++ o ++ [32] ++ u, w.drop 1 ++ [32] ++ o ++ [32] ++ u]
def bG (w o u r : List Nat) : List (List Nat) := [[59, 32] ++ r, w ++ [32] ++ o ++ [95, 48, 32] ++ u]
def badL (w o u r : List Nat) (c : Nat) : List (List Nat) := bA w o u r ++ bB w o u r ++ bC w o u r ++ bD w o u r c ++ bE w o u r ++ bF w o u r ++ bG w o u r
def rowE (w o u : List Nat) : List Nat := w ++ [32] ++ o ++ [32] ++ u
theorem row_eq (d : Deed) : rowL d = rowE (wordL d.1) (TL.numL d.2.1) (TL.numL d.2.2) := by
  unfold rowE
  rw [rowL_eq]
  simp
theorem row_of {d : Deed} (hd : SmD d) : Row (wordL d.1) (TL.numL d.2.1) (TL.numL d.2.2) d.2.1 := by
  refine ⟨?_, rfl, hd.i, fun x hx => numL_mem hx, fun x hx => numL_mem hx, TL.numL_ne _, TL.numL_ne _⟩
  cases d.1
  · exact .inl rfl
  · exact .inr rfl
theorem badL_bad {d : Deed} (hd : SmD d) {c : Nat} (hc : c ∈ signsL) : ∀ t ∈ badL (wordL d.1) (TL.numL d.2.1) (TL.numL d.2.2) (rowL d) c, BadT t := by
  have R := row_of hd
  have e := row_eq d
  have c32 : c ≠ 32 := by rintro rfl; revert hc; decide
  have cf : figsT.contains c = false := by
    simp only [signsL, List.mem_cons, List.not_mem_nil, or_false] at hc
    rcases hc with rfl | rfl | rfl | rfl | rfl | rfl | rfl | rfl | rfl | rfl | rfl | rfl | rfl | rfl <;> rfl
  have k15 := kind15 R hd (by rw [e]; rfl)
  generalize rowL d = r at *
  generalize wordL d.1 = w at *
  generalize TL.numL d.2.1 = o at *
  generalize TL.numL d.2.2 = u at *
  subst e
  obtain ⟨a0, a1, a2, a3, a4, a5, a6⟩ := kinds_a R
  obtain ⟨b0, b1, b2, b3, b4, b5⟩ := kinds_b R
  obtain ⟨c0, c1, c2, c3, c4, c5, c6, c7⟩ := kinds_c R
  have k13 := kind18 R (c := 59) (by decide) rfl
  have k14 := kind14 R
  have k16 := kind16 R c32 cf
  have k17 := kind17 R c32
  have k18 := kind18 R c32 cf
  have k26 := kind26 R
  intro t ht
  simp only [badL, bA, bB, bC, bD, bE, bF, bG, List.mem_append, List.mem_cons, List.not_mem_nil, or_false] at ht
  unfold rowE at ht
  rcases ht with ((((((ht | ht | ht | ht | ht | ht | ht) | ht | ht | ht) | ht | ht | ht | ht | ht | ht) | ht | ht | ht | ht) | ht | ht | ht) | ht | ht | ht) | ht | ht <;> rw [ht] <;> assumption
def Ch (t : List Nat) : Prop := ∀ x ∈ t, x < 1114112
theorem Ch.app {a b : List Nat} (h : Ch a) (k : Ch b) : Ch (a ++ b) := fun x hx => (List.mem_append.mp hx).elim (h x) (k x)
theorem Ch.lit {a : List Nat} (h : a.all (fun x => decide (x < 1114112)) = true) : Ch a := fun x hx => of_decide_eq_true (List.all_eq_true.mp h x hx)
theorem badL_sh {d : Deed} (hd : SmD d) {c : Nat} (hc : c ∈ signsL) : ∀ t ∈ badL (wordL d.1) (TL.numL d.2.1) (TL.numL d.2.2) (rowL d) c, Ch t ∧ t.length ≤ 400 := by
  have c1 : Ch [c] := by
    have : c < 1114112 := by
      simp only [signsL, List.mem_cons, List.not_mem_nil, or_false] at hc
      omega
    intro x hx
    rw [List.mem_singleton.mp hx]
    exact this
  have hw : Ch (wordL d.1) := fun x hx => by have := wordL_mem hx; omega
  have hwd : Ch ((wordL d.1).drop 1) := fun x hx => hw x (List.mem_of_mem_drop hx)
  have ho : Ch (TL.numL d.2.1) := fun x hx => by have := numL_mem hx; omega
  have hu : Ch (TL.numL d.2.2) := fun x hx => by have := numL_mem hx; omega
  have hr : Ch (rowL d) := fun x hx => by have := rowL_mem hx; omega
  have lw := wordL_len d.1
  have lo := numL_70 hd.i
  have lu := numL_70 hd.j
  have lr := rowL_len hd
  generalize rowL d = r at *
  generalize wordL d.1 = w at *
  generalize TL.numL d.2.1 = o at *
  generalize TL.numL d.2.2 = u at *
  intro t ht
  simp only [badL, bA, bB, bC, bD, bE, bF, bG, List.mem_append, List.mem_cons, List.not_mem_nil, or_false] at ht
  constructor
  · rcases ht with ((((((ht | ht | ht | ht | ht | ht | ht) | ht | ht | ht) | ht | ht | ht | ht | ht | ht) | ht | ht | ht | ht) | ht | ht | ht) | ht | ht | ht) | ht | ht <;> rw [ht] <;>
      repeat' first | exact hw | exact ho | exact hu | exact hr | exact hwd | exact c1 | exact Ch.lit (by decide) | apply Ch.app
  · rcases ht with ((((((ht | ht | ht | ht | ht | ht | ht) | ht | ht | ht) | ht | ht | ht | ht | ht | ht) | ht | ht | ht | ht) | ht | ht | ht) | ht | ht | ht) | ht | ht <;> rw [ht] <;> (try simp only [List.length_append, List.length_cons, List.length_nil, List.length_drop]) <;> omega
end LawK25
namespace LawK25
open PySem Fw
theorem cat {m : Bool} {x y : List Nat} {M : Hh} (h : x.length + y.length ≤ 4000) : binD m .add (.str x) (.str y) M = .ok (.str (x ++ y)) M := by
  have := line_val
  rw [bin_str, if_pos (by omega)]
theorem catL {xs ys : List (List Nat)} {M : Hh} (h : xs.length + ys.length ≤ 100) : binD false .add (.lst (xs.map D.str)) (.lst (ys.map D.str)) M = .ok (.lst ((xs ++ ys).map D.str)) M := by
  have := line_val
  simp only [bin_lst, seqBin, catD, lstOf_lst, List.length_map]
  rw [if_pos (by omega), mkL_f, List.map_append]
theorem sign_ok {z : Int} : ∃ c, c ∈ signsL ∧ ∀ M, idxD (.str signsL) (.int (z % 14)) M = .ok (.str [c]) M := by
  rcases (by omega : z % 14 = 0 ∨ z % 14 = 1 ∨ z % 14 = 2 ∨ z % 14 = 3 ∨ z % 14 = 4 ∨ z % 14 = 5 ∨ z % 14 = 6 ∨ z % 14 = 7 ∨ z % 14 = 8 ∨ z % 14 = 9 ∨ z % 14 = 10 ∨ z % 14 = 11 ∨ z % 14 = 12 ∨ z % 14 = 13) with h | h | h | h | h | h | h | h | h | h | h | h | h | h <;> rw [h] <;> exact ⟨_, by decide, fun _ => rfl⟩
theorem idx_strs {L : List (List Nat)} {z : Int} {n : Nat} (hn : L.length = n) (h0 : 0 < n) : ∃ t, t ∈ L ∧ ∀ M, idxD (.lst (L.map D.str)) (.int (z % (n : Int))) M = .ok (.str t) M := by
  have b0 : 0 ≤ z % (n : Int) := Int.emod_nonneg _ (by omega)
  have b1 : z % (n : Int) < (n : Int) := Int.emod_lt_of_pos _ (by omega)
  generalize z % (n : Int) = i at *
  obtain ⟨j, rfl⟩ : ∃ j : Nat, i = (j : Int) := ⟨i.toNat, by omega⟩
  have hj : j < L.length := by omega
  refine ⟨L[j], List.getElem_mem hj, fun M => ?_⟩
  have ix : (ixN (L.map D.str).length (j : Int)).bind (fun q => (L.map D.str)[q]?) = some (.str L[j]) := by
    unfold ixN
    rw [if_pos (by omega), if_pos (by rw [List.length_map]; omega)]
    simp [hj]
  simp only [idxD, seqOf_lst, ix]
theorem w_cut (b : Bool) (M : Hh) : slD false (.str (wordL b)) (.int 1) .non M = .ok (.str ((wordL b).drop 1)) M := by cases b <;> rfl
section
variable {Φ : Orc} {w o u r : List Nat} {c : Nat} {M : Hh} {z : D} {b : Bool}
def s3 (L : List (List Nat)) : D := .lst (L.map D.str)
theorem str_lst (L : List (List Nat)) : D.lst (L.map D.str) = s3 L := rfl
variable (lw : w.length ≤ 4) (lo : o.length ≤ 70) (lu : u.length ≤ 70) (lr : r.length ≤ 146)
include lw lo lu lr
theorem stA (x3 : Option D) : exS P Φ (F10.body.getD 2 .pass) [some (.str r), some z, some (.str [c]), x3, some (.str w), some (.str o), some (.str u)] M = .ok .nx [some (.str r), some z, some (.str [c]), some (s3 (bA w o u r)), some (.str w), some (.str o), some (.str u)] M := by
  show exS P Φ (.asg (.name 3) (.lst false _)) _ M = _
  simp (disch := (simp only [List.length_append, List.length_cons, List.length_nil]; omega)) [cat, -bin_str, bA, s3]
theorem stB {L : List (List Nat)} (hL : L.length ≤ 60) : exS P Φ (F10.body.getD 3 .pass) [some (.str r), some z, some (.str [c]), some (s3 L), some (.str w), some (.str o), some (.str u)] M = .ok .nx [some (.str r), some z, some (.str [c]), some (s3 (L ++ bB w o u r)), some (.str w), some (.str o), some (.str u)] M := by
  show exS P Φ (.asg (.name 3) (.bin false .add (.var 3) (.lst false _))) _ M = _
  have e := catL (xs := L) (ys := bB w o u r) (M := M) (by simp [bB]; omega)
  rw [str_lst, str_lst, str_lst] at e
  generalize s3 (L ++ bB w o u r) = L2 at *
  generalize s3 L = L1 at *
  have e2 : s3 (bB w o u r) = .lst ((bB w o u r).map D.str) := rfl
  rw [e2] at e
  simp only [bB, List.map_cons, List.map_nil, List.append_assoc, List.cons_append, List.nil_append] at e
  have wd : (w.drop 1).length ≤ 4 := by rw [List.length_drop]; omega
  generalize w.drop 1 = w1 at *
  simp (disch := (simp only [List.length_append, List.length_cons, List.length_nil]; omega)) [cat, e, -bin_str, -bin_lst]
theorem stC {L : List (List Nat)} (hL : L.length ≤ 60) : exS P Φ (F10.body.getD 4 .pass) [some (.str r), some z, some (.str [c]), some (s3 L), some (.str w), some (.str o), some (.str u)] M = .ok .nx [some (.str r), some z, some (.str [c]), some (s3 (L ++ bC w o u r)), some (.str w), some (.str o), some (.str u)] M := by
  show exS P Φ (.asg (.name 3) (.bin false .add (.var 3) (.lst false _))) _ M = _
  have e := catL (xs := L) (ys := bC w o u r) (M := M) (by simp [bC]; omega)
  rw [str_lst, str_lst, str_lst] at e
  generalize s3 (L ++ bC w o u r) = L2 at *
  generalize s3 L = L1 at *
  have e2 : s3 (bC w o u r) = .lst ((bC w o u r).map D.str) := rfl
  rw [e2] at e
  simp only [bC, List.map_cons, List.map_nil, List.append_assoc, List.cons_append, List.nil_append] at e
  have wd : (w.drop 1).length ≤ 4 := by rw [List.length_drop]; omega
  generalize w.drop 1 = w1 at *
  simp (disch := (simp only [List.length_append, List.length_cons, List.length_nil]; omega)) [cat, e, -bin_str, -bin_lst]
theorem stD {L : List (List Nat)} (hL : L.length ≤ 60) : exS P Φ (F10.body.getD 5 .pass) [some (.str r), some z, some (.str [c]), some (s3 L), some (.str w), some (.str o), some (.str u)] M = .ok .nx [some (.str r), some z, some (.str [c]), some (s3 (L ++ bD w o u r c)), some (.str w), some (.str o), some (.str u)] M := by
  show exS P Φ (.asg (.name 3) (.bin false .add (.var 3) (.lst false _))) _ M = _
  have e := catL (xs := L) (ys := bD w o u r c) (M := M) (by simp [bD]; omega)
  rw [str_lst, str_lst, str_lst] at e
  generalize s3 (L ++ bD w o u r c) = L2 at *
  generalize s3 L = L1 at *
  have e2 : s3 (bD w o u r c) = .lst ((bD w o u r c).map D.str) := rfl
  rw [e2] at e
  simp only [bD, List.map_cons, List.map_nil, List.append_assoc, List.cons_append, List.nil_append] at e
  have wd : (w.drop 1).length ≤ 4 := by rw [List.length_drop]; omega
  generalize w.drop 1 = w1 at *
  simp (disch := (simp only [List.length_append, List.length_cons, List.length_nil]; omega)) [cat, e, -bin_str, -bin_lst]
theorem stE {L : List (List Nat)} (hL : L.length ≤ 60) : exS P Φ (F10.body.getD 6 .pass) [some (.str r), some z, some (.str [c]), some (s3 L), some (.str w), some (.str o), some (.str u)] M = .ok .nx [some (.str r), some z, some (.str [c]), some (s3 (L ++ bE w o u r)), some (.str w), some (.str o), some (.str u)] M := by
  show exS P Φ (.asg (.name 3) (.bin false .add (.var 3) (.lst false _))) _ M = _
  have e := catL (xs := L) (ys := bE w o u r) (M := M) (by simp [bE]; omega)
  rw [str_lst, str_lst, str_lst] at e
  generalize s3 (L ++ bE w o u r) = L2 at *
  generalize s3 L = L1 at *
  have e2 : s3 (bE w o u r) = .lst ((bE w o u r).map D.str) := rfl
  rw [e2] at e
  simp only [bE, List.map_cons, List.map_nil, List.append_assoc, List.cons_append, List.nil_append] at e
  have wd : (w.drop 1).length ≤ 4 := by rw [List.length_drop]; omega
  generalize w.drop 1 = w1 at *
  simp (disch := (simp only [List.length_append, List.length_cons, List.length_nil]; omega)) [cat, e, -bin_str, -bin_lst]
theorem stF {L : List (List Nat)} (hL : L.length ≤ 60) (hw : ∀ M, slD false (.str w) (.int 1) .non M = .ok (.str (w.drop 1)) M) : exS P Φ (F10.body.getD 7 .pass) [some (.str r), some z, some (.str [c]), some (s3 L), some (.str w), some (.str o), some (.str u)] M = .ok .nx [some (.str r), some z, some (.str [c]), some (s3 (L ++ bF w o u r)), some (.str w), some (.str o), some (.str u)] M := by
  show exS P Φ (.asg (.name 3) (.bin false .add (.var 3) (.lst false _))) _ M = _
  have e := catL (xs := L) (ys := bF w o u r) (M := M) (by simp [bF]; omega)
  rw [str_lst, str_lst, str_lst] at e
  generalize s3 (L ++ bF w o u r) = L2 at *
  generalize s3 L = L1 at *
  have e2 : s3 (bF w o u r) = .lst ((bF w o u r).map D.str) := rfl
  rw [e2] at e
  simp only [bF, List.map_cons, List.map_nil, List.append_assoc, List.cons_append, List.nil_append] at e
  have wd : (w.drop 1).length ≤ 4 := by rw [List.length_drop]; omega
  generalize w.drop 1 = w1 at *
  simp (disch := (simp only [List.length_append, List.length_cons, List.length_nil]; omega)) [cat, e, hw, partD, partOk, isLN, -bin_str, -bin_lst]
theorem stG {L : List (List Nat)} {z0 : Int} {n : Nat} (hL : (L ++ bG w o u r).length = 28) (hz : ∀ M, idxD z (.int 0) M = .ok (.int z0) M) : ∃ t, t ∈ L ++ bG w o u r ∧ exS P Φ (F10.body.getD 8 .pass) [some (.str r), some z, some (.str [c]), some (s3 L), some (.str w), some (.str o), some (.str u)] M = .ok (.ret (.str t)) [some (.str r), some z, some (.str [c]), some (s3 L), some (.str w), some (.str o), some (.str u)] M := by
  obtain ⟨t, ht, et⟩ := idx_strs (z := z0) hL (by decide)
  refine ⟨t, ht, ?_⟩
  show exS P Φ (.ret (.idx (.bin false .add (.var 3) (.lst false _)) _)) _ M = _
  have m28 : ∀ M : Hh, binI .mod z0 28 M = .ok (.int (z0 % 28)) M := fun M => binI_modP (by decide)
  have et : ∀ M, idxD (.lst ((L ++ bG w o u r).map D.str)) (.int (z0 % 28)) M = .ok (.str t) M := et
  have e := catL (xs := L) (ys := bG w o u r) (M := M) (by rw [List.length_append] at hL; omega)
  rw [str_lst, str_lst, str_lst] at e
  rw [str_lst] at et
  clear ht hL
  generalize s3 (L ++ bG w o u r) = L2 at *
  generalize s3 L = L1 at *
  have e2 : s3 (bG w o u r) = .lst ((bG w o u r).map D.str) := rfl
  rw [e2] at e
  simp only [bG, List.map_cons, List.map_nil, List.append_assoc, List.cons_append, List.nil_append] at e
  simp (disch := (simp only [List.length_append, List.length_cons, List.length_nil]; omega)) [cat, e, hz, m28, et, -bin_str, -bin_lst]
end
theorem bad_run {k : Nat} {d : Deed} (hd : SmD d) (z0 z1 z2 z3 : Int) : ∃ c t, c ∈ signsL ∧ t ∈ badL (wordL d.1) (TL.numL d.2.1) (TL.numL d.2.2) (rowL d) c ∧ Ev P T (k + 1) 10 [.str (rowL d), .lst [.int z0, .int z1, .int z2, .int z3]] (.str t) := by
  have hr : Txt (rowL d) := ⟨Nat.le_trans (rowL_len hd) (by decide), fun x hx => by have := rowL_mem hx; omega⟩
  have R := row_of hd
  obtain ⟨w1, o1, u1⟩ := R.no 32 (.inl rfl)
  have sp : ∀ M, splitD false (.str (rowL d)) [.str [32]] M = .ok (.lst [.str (wordL d.1), .str (TL.numL d.2.1), .str (TL.numL d.2.2)]) M := fun M => by
    rw [split_any hr false (by decide) M]
    have : TL.spl [32] 0 [] (rowL d) = [wordL d.1, TL.numL d.2.1, TL.numL d.2.2] := wds_join (ws := [wordL d.1, TL.numL d.2.1, TL.numL d.2.2]) (by simp) (by simp [w1, o1, u1])
    rw [this]
    rfl
  have lw := wordL_len d.1
  have lo := numL_70 hd.i
  have lu := numL_70 hd.j
  have lr := rowL_len hd
  have hw := w_cut d.1
  clear R hr hd w1 o1 u1
  generalize rowL d = r at *
  generalize wordL d.1 = w at *
  generalize TL.numL d.2.1 = o at *
  generalize TL.numL d.2.2 = u at *
  obtain ⟨c, hc, ec⟩ := sign_ok (z := z1)
  have i0 : ∀ M, idxD (.lst [.int z0, .int z1, .int z2, .int z3]) (.int 0) M = .ok (.int z0) M := fun _ => rfl
  have i1 : ∀ M, idxD (.lst [.int z0, .int z1, .int z2, .int z3]) (.int 1) M = .ok (.int z1) M := fun _ => rfl
  generalize D.lst [.int z0, .int z1, .int z2, .int z3] = Z at *
  obtain ⟨t, ht, eg⟩ := stG (Φ := Fw.run P T k) (c := c) (M := []) (L := bA w o u r ++ bB w o u r ++ bC w o u r ++ bD w o u r c ++ bE w o u r ++ bF w o u r) (n := 28) lw lo lu lr (by simp [bA, bB, bC, bD, bE, bF, bG]) i0
  refine ⟨c, t, hc, ht, Ev.of (F := F10) rfl rfl rfl ?_⟩
  have m14 : ∀ M : Hh, binI .mod z1 14 M = .ok (.int (z1 % 14)) M := fun M => binI_modP (by decide)
  have bk : ∀ M, bmOk .split (.str r) M = true := fun _ => rfl
  have b0 : exS P (Fw.run P T k) (F10.body.getD 0 .pass) [some (.str r), some Z, none, none, none, none, none] [] = .ok .nx [some (.str r), some Z, none, none, some (.str w), some (.str o), some (.str u)] [] := by
    show exS P _ (.asg (.names true [4, 5, 6]) (.bm false .split (.var 0) [(.lit (.str [32]))])) _ _ = _
    simp [bk, bmD, sp, setAll]
  have b1 : exS P (Fw.run P T k) (F10.body.getD 1 .pass) [some (.str r), some Z, none, none, some (.str w), some (.str o), some (.str u)] [] = .ok .nx [some (.str r), some Z, some (.str [c]), none, some (.str w), some (.str o), some (.str u)] [] := by
    show exS P _ (.asg (.name 2) (.idx (.lit (.str signsL)) (.bin false .mod (.idx (.var 1) (.lit (.int (1)))) (.lit (.int (14)))))) _ _ = _
    simp [i1, m14, ec]
  have hb : F10.body = [F10.body.getD 0 .pass, F10.body.getD 1 .pass, F10.body.getD 2 .pass, F10.body.getD 3 .pass, F10.body.getD 4 .pass, F10.body.getD 5 .pass, F10.body.getD 6 .pass, F10.body.getD 7 .pass, F10.body.getD 8 .pass] := rfl
  show endS (exSs P (Fw.run P T k) F10.body [some (.str r), some Z, none, none, none, none, none] []) = _
  rw [hb, ex_cons, b0, OutS.next_nx, ex_cons, b1, OutS.next_nx, ex_cons, stA lw lo lu lr, OutS.next_nx, ex_cons, stB lw lo lu lr (by simp [bA]), OutS.next_nx, ex_cons, stC lw lo lu lr (by simp [bA, bB]), OutS.next_nx, ex_cons, stD lw lo lu lr (by simp [bA, bB, bC]), OutS.next_nx, ex_cons, stE lw lo lu lr (by simp [bA, bB, bC, bD]), OutS.next_nx, ex_cons, stF lw lo lu lr (by simp [bA, bB, bC, bD, bE]) hw, OutS.next_nx, ex_cons, eg]
  rfl
end LawK25
namespace LawK25
open PySem Fw
def tB : List Fw.S := [
    .asg (.name 4) (.call true 7 [(.var 3), (.lit (.int (50))), (.lit (.int (4)))]),
    .asg (.name 5) (.bin false .mod (.idx (.var 4) (.lit (.int (2)))) (.bi false .len [(.var 2)])),
    .asg (.name 6) (.call true 10 [(.idx (.var 2) (.var 5)), (.var 4)]),
    .ite (.and (.cmp .eq (.bi false .len [(.var 2)]) (.lit (.int (1)))) (.cmp .eq (.var 6) (.lit (.str [])))) [
      .asg (.name 6) (.lit (.str [114, 111, 119]))] [],
    .ite (.not (.call true 11 [(.bm false .join (.lit (.str [59, 32])) [(.bin false .add (.bin false .add (.sl false (.var 2) (.lit .non) (.var 5)) (.lst false [(.var 6)])) (.sl false (.var 2) (.bin false .add (.var 5) (.lit (.int (1)))) (.lit .non)))])])) [
      .ret (.lit (.bl false))] [],
    .ite (.not (.call false 11 [(.idx (.lst false [(.lit .non), (.lit (.int (5))), (.lit (.bl true)), (.var 1), (.tup [(.lit (.str [108, 105, 110, 101, 32, 48, 32, 49]))]), (.dict .one [] [])]) (.bin false .mod (.idx (.var 4) (.lit (.int (3)))) (.lit (.int (6)))))])) [
      .ret (.lit (.bl false))] []]
theorem Ch.join {S : List Nat} (hS : Ch S) : ∀ {ps : List (List Nat)}, (∀ p ∈ ps, Ch p) → Ch (TL.joinL S ps)
  | [], _ => fun _ h => by cases h
  | [a], h => h a (by simp)
  | a :: b :: r, h => by
    show Ch (a ++ (S ++ TL.joinL S (b :: r)))
    exact (h a (by simp)).app (hS.app (Ch.join hS fun p hp => h p (List.mem_cons_of_mem _ hp)))
theorem join_ne {ps : List (List Nat)} (h : (∃ p, ps = [p] ∧ p ≠ []) ∨ 2 ≤ ps.length) : TL.joinL [59, 32] ps ≠ [] := by
  rcases h with ⟨p, rfl, hp⟩ | h
  · exact hp
  · match ps, h with
    | a :: b :: r, _ =>
      intro z
      have z : a ++ ([59, 32] ++ TL.joinL [59, 32] (b :: r)) = [] := z
      simp at z
theorem row_bad : BadT [114, 111, 119] := k_join (ws := [[114, 111, 119]]) rfl (by simp) (bad_len (by simp) (by simp) (by simp))
section
variable {k : Nat} (hk : 3 ≤ k) {pl : List Deed} (hs : ∀ d ∈ pl, SmD d) (h1 : 1 ≤ pl.length) (h12 : pl.length ≤ 12)
include hs h1 h12
theorem no_at {j : Nat} (hj : j < pl.length) {t : List Nat} (hb : BadT t) (hc : Ch t) (hl : t.length ≤ 400) (ne : pl.length = 1 → t ≠ []) (hk : 2 ≤ k) (M : Hh) :
    joinD (.str [59, 32]) [.lst (((pl.map rowL).take j ++ [t] ++ (pl.map rowL).drop (j + 1)).map D.str)] M = .ok (.str (TL.joinL [59, 32] ((pl.take j).map rowL ++ (t :: (pl.drop (j + 1)).map rowL)))) M ∧
    Fw.run P T (k + 2) 11 [.str (TL.joinL [59, 32] ((pl.take j).map rowL ++ (t :: (pl.drop (j + 1)).map rowL)))] M = .ok (.bl true) M := by
  have e : (pl.map rowL).take j ++ [t] ++ (pl.map rowL).drop (j + 1) = (pl.take j).map rowL ++ (t :: (pl.drop (j + 1)).map rowL) := by
    rw [List.map_take, List.map_drop]; simp
  have hlen : ((pl.take j).map rowL ++ (t :: (pl.drop (j + 1)).map rowL)).length = pl.length := by
    simp; omega
  have hp : ∀ p ∈ (pl.take j).map rowL ++ (t :: (pl.drop (j + 1)).map rowL), p.length ≤ 400 ∧ Ch p := by
    intro p hp
    have row : ∀ d ∈ pl, (rowL d).length ≤ 400 ∧ Ch (rowL d) := fun d hd => ⟨Nat.le_trans (rowL_len (hs d hd)) (by decide), fun x hx => by have := rowL_mem hx; omega⟩
    rcases List.mem_append.mp hp with h | h
    · obtain ⟨d, hd, rfl⟩ := List.mem_map.mp h
      exact row d (List.mem_of_mem_take hd)
    · rcases List.mem_cons.mp h with h | h
      · subst h; exact ⟨hl, hc⟩
      · obtain ⟨d, hd, rfl⟩ := List.mem_map.mp h
        exact row d (List.mem_of_mem_drop hd)
  rw [e]
  have jl := joinL_len [59, 32] _ (fun p h => (hp p h).1)
  rw [hlen] at jl
  have e2 : ([59, 32] : List Nat).length = 2 := rfl
  rw [e2] at jl
  constructor
  · refine join_ok (n := 400) (fun p h => (hp p h).1) ?_ rfl
    rw [hlen, e2]
    omega
  · refine whole_no hk (fun d hd => hs d (List.mem_of_mem_take hd)) hb ⟨by omega, Ch.join (Ch.lit (by decide)) fun p h => (hp p h).2⟩ (join_ne ?_) M
    by_cases h : pl.length = 1
    · left
      match pl, h, hj with
      | [d], _, hj =>
        have : j = 0 := by simp at hj; exact hj
        subst this
        exact ⟨t, rfl, ne rfl⟩
    · right
      rw [hlen]
      omega
theorem turn {S : D} (c : Int) (s4 s5 s6 : Option D) (M : Hh) (hk : 3 ≤ k) : ∃ t4 t5 t6 M', exSs P (Fw.run P T (k + 2)) tB [some S, some (.lst (pl.map deedD)), some (.lst ((pl.map rowL).map D.str)), some (.int c), s4, s5, s6] M = .ok .nx [some S, some (.lst (pl.map deedD)), some (.lst ((pl.map rowL).map D.str)), some (.int c), t4, t5, t6] M' := by
  obtain ⟨zs, h7, hz, ez⟩ := digits_ok (P := P) (T := T) (n := 7) rfl (k := k + 2) (by omega) c (q := 50) (many := 4) (by omega) (by decide)
  obtain ⟨z0, z1, z2, z3, rfl⟩ : ∃ z0 z1 z2 z3, zs = [z0, z1, z2, z3] := by
    match zs, h7 with
    | [z0, z1, z2, z3], _ => exact ⟨_, _, _, _, rfl⟩
  have ez : ∀ M, ownD (Fw.run P T (k + 2) 7 [.int c, .int 50, .int 4] []) M = .ok (.lst [.int z0, .int z1, .int z2, .int z3]) M := ez.own
  have i2 : ∀ M, idxD (.lst [.int z0, .int z1, .int z2, .int z3]) (.int 2) M = .ok (.int z2) M := fun _ => rfl
  have i3 : ∀ M, idxD (.lst [.int z0, .int z1, .int z2, .int z3]) (.int 3) M = .ok (.int z3) M := fun _ => rfl
  have nz : noRef (.lst [.int z0, .int z1, .int z2, .int z3]) = true := rfl
  have ln : ∀ M, biD false .len [.lst ((pl.map rowL).map D.str)] M = .ok (.int (pl.length : Int)) M := fun M => by simp [biD, lenD, lenD1]
  have md : ∀ M : Hh, binI .mod z2 (pl.length : Int) M = .ok (.int (z2 % (pl.length : Int))) M := fun M => binI_modP (by omega)
  obtain ⟨j, hj, ej⟩ : ∃ j : Nat, j < pl.length ∧ z2 % (pl.length : Int) = (j : Int) := by
    have b0 : 0 ≤ z2 % (pl.length : Int) := Int.emod_nonneg _ (by omega)
    have b1 : z2 % (pl.length : Int) < (pl.length : Int) := Int.emod_lt_of_pos _ (by omega)
    exact ⟨(z2 % (pl.length : Int)).toNat, by omega, by omega⟩
  rw [ej] at md
  have hd := hs _ (List.getElem_mem hj)
  have ix : ∀ M, idxD (.lst ((pl.map rowL).map D.str)) (.int (j : Int)) M = .ok (.str (rowL pl[j])) M := fun M => by
    have e : (ixN ((pl.map rowL).map D.str).length (j : Int)).bind (fun q => ((pl.map rowL).map D.str)[q]?) = some (.str (rowL pl[j])) := by
      unfold ixN
      rw [if_pos (by omega), if_pos (by simp; omega)]
      simp [hj]
    simp only [idxD, seqOf_lst, e]
  obtain ⟨sg, t, hsg, ht, et⟩ := bad_run (k := k + 1) hd z0 z1 z2 z3
  have et := et.own
  obtain ⟨bt, bc, bl⟩ : BadT t ∧ Ch t ∧ t.length ≤ 400 := ⟨badL_bad hd hsg t ht, (badL_sh hd hsg t ht).1, (badL_sh hd hsg t ht).2⟩
  obtain ⟨u, hu, bu, cu, lu, nu⟩ : ∃ u, (∀ M, exS P (Fw.run P T (k + 2)) (.ite (.and (.cmp .eq (.bi false .len [(.var 2)]) (.lit (.int (1)))) (.cmp .eq (.var 6) (.lit (.str [])))) [
      .asg (.name 6) (.lit (.str [114, 111, 119]))] []) [some S, some (.lst (pl.map deedD)), some (.lst ((pl.map rowL).map D.str)), some (.int c), some (.lst [.int z0, .int z1, .int z2, .int z3]), some (.int (j : Int)), some (.str t)] M = .ok .nx [some S, some (.lst (pl.map deedD)), some (.lst ((pl.map rowL).map D.str)), some (.int c), some (.lst [.int z0, .int z1, .int z2, .int z3]), some (.int (j : Int)), some (.str u)] M) ∧ BadT u ∧ Ch u ∧ u.length ≤ 400 ∧ (pl.length = 1 → u ≠ []) := by
    generalize D.lst (pl.map deedD) = PD
    generalize D.lst ((pl.map rowL).map D.str) = RD at *
    generalize D.lst [.int z0, .int z1, .int z2, .int z3] = Z
    by_cases h : pl.length = 1
    · by_cases h2 : t = []
      · refine ⟨[114, 111, 119], fun M => ?_, row_bad, Ch.lit (by decide), by decide, fun _ => by simp⟩
        have q : eqM M (.str []) (.str []) = some true := rfl
        subst h2
        simp [ln, eqM_int, h, q]
      · refine ⟨t, fun M => ?_, bt, bc, bl, fun _ => h2⟩
        have q : eqM M (.str t) (.str []) = some false := by
          unfold eqM
          simp [Fw.plain, eqD, h2]
        simp [ln, eqM_int, h, q]
    · refine ⟨t, fun M => ?_, bt, bc, bl, fun z => absurd z h⟩
      have h' : ¬ (pl.length : Int) = 1 := by omega
      simp [ln, eqM_int, h']
  have na := no_at (k := k) hs h1 h12 hj bu cu lu nu (by omega)
  have tk : ∀ M, slD false (.lst ((pl.map rowL).map D.str)) .non (.int (j : Int)) M = .ok (.lst (((pl.map rowL).take j).map D.str)) M := fun M => by
    have : ¬ (j : Int) < 0 := by omega
    simp [slD, optI, cut, sIx, this, List.map_take, Nat.min_eq_left (Nat.le_of_lt hj)]
  have dr : ∀ M, slD false (.lst ((pl.map rowL).map D.str)) (.int ((j : Int) + 1)) .non M = .ok (.lst (((pl.map rowL).drop (j + 1)).map D.str)) M := fun M => by
    have h0 : ¬ (j : Int) + 1 < 0 := by omega
    have h2 : ((j : Int) + 1).toNat = j + 1 := by omega
    simp [slD, optI, cut, sIx, h0, h2, List.map_drop, Nat.min_eq_left hj]
    rw [List.take_of_length_le (by simp)]
  have c1 : ∀ M, binD false .add (.lst (((pl.map rowL).take j).map D.str)) (.lst [.str u]) M = .ok (.lst (((pl.map rowL).take j ++ [u]).map D.str)) M := fun M => catL (ys := [u]) (by simp; omega)
  have c2 : ∀ M, binD false .add (.lst (((pl.map rowL).take j ++ [u]).map D.str)) (.lst (((pl.map rowL).drop (j + 1)).map D.str)) M = .ok (.lst (((pl.map rowL).take j ++ [u] ++ (pl.map rowL).drop (j + 1)).map D.str)) M := fun M => catL (by simp; omega)
  have nj : ∀ M, ownD (Fw.run P T (k + 2) 11 [.str (TL.joinL [59, 32] ((pl.take j).map rowL ++ (u :: (pl.drop (j + 1)).map rowL)))] []) M = .ok (.bl true) M := fun M => by
    rw [(na []).2]
    rfl
  have jo := fun M => (na M).1
  have bk : ∀ M, bmOk .join (.str [59, 32]) M = true := fun _ => rfl
  have m6 : ∀ M : Hh, binI .mod z3 6 M = .ok (.int (z3 % 6)) M := fun M => binI_modP (by decide)
  obtain ⟨d6, id6, ti6⟩ : ∃ d6, idxD (.lst [.non, .int 5, .bl true, .lst (pl.map deedD), .tup [.str [108, 105, 110, 101, 32, 48, 32, 49]], .ref M.length]) (.int (z3 % 6)) (M ++ [.dic .one [] []]) = .ok d6 (M ++ [.dic .one [] []]) ∧ isTys P (M ++ [.dic .one [] []]) d6 [.str] = some false := by
    have last : isTys P (M ++ [.dic .one [] []]) (.ref M.length) [.str] = some false := by
      simp [isTys, isTy]
    rcases (by omega : z3 % 6 = 0 ∨ z3 % 6 = 1 ∨ z3 % 6 = 2 ∨ z3 % 6 = 3 ∨ z3 % 6 = 4 ∨ z3 % 6 = 5) with h | h | h | h | h | h <;> rw [h]
    · exact ⟨_, rfl, rfl⟩
    · exact ⟨_, rfl, rfl⟩
    · exact ⟨_, rfl, rfl⟩
    · exact ⟨_, rfl, rfl⟩
    · exact ⟨_, rfl, rfl⟩
    · exact ⟨_, rfl, last⟩
  have n6 := not_ok (k := k) ti6
  have de : dispE .one [] [] = some ([], []) := rfl
  refine ⟨some (.lst [.int z0, .int z1, .int z2, .int z3]), some (.int (j : Int)), some (.str u), M ++ [.dic .one [] []], ?_⟩
  generalize D.lst (((pl.map rowL).take j ++ [u] ++ (pl.map rowL).drop (j + 1)).map D.str) = J3 at *
  generalize D.lst (((pl.map rowL).take j ++ [u]).map D.str) = J2 at *
  generalize D.lst (((pl.map rowL).drop (j + 1)).map D.str) = JD at *
  generalize D.lst (((pl.map rowL).take j).map D.str) = J1 at *
  generalize TL.joinL [59, 32] ((pl.take j).map rowL ++ (u :: (pl.drop (j + 1)).map rowL)) = JT at *
  generalize D.lst (pl.map deedD) = PD at *
  generalize D.lst ((pl.map rowL).map D.str) = RD at *
  generalize D.lst [.int z0, .int z1, .int z2, .int z3] = Z at *
  generalize rowL pl[j] = RJ at *
  generalize hM2 : (M ++ [MO.dic .one [] []]) = M2 at *
  have sa : ∀ M, exS P (Fw.run P T (k + 2)) (.asg (.name 4) (.call true 7 [(.var 3), (.lit (.int (50))), (.lit (.int (4)))])) [some S, some PD, some RD, some (.int c), s4, s5, s6] M = .ok .nx [some S, some PD, some RD, some (.int c), some Z, s5, s6] M := fun M => by simp [ez]
  have sb : ∀ M, exS P (Fw.run P T (k + 2)) (.asg (.name 5) (.bin false .mod (.idx (.var 4) (.lit (.int (2)))) (.bi false .len [(.var 2)]))) [some S, some PD, some RD, some (.int c), some Z, s5, s6] M = .ok .nx [some S, some PD, some RD, some (.int c), some Z, some (.int (j : Int)), s6] M := fun M => by simp [i2, ln, md]
  have sc : ∀ M, exS P (Fw.run P T (k + 2)) (.asg (.name 6) (.call true 10 [(.idx (.var 2) (.var 5)), (.var 4)])) [some S, some PD, some RD, some (.int c), some Z, some (.int (j : Int)), s6] M = .ok .nx [some S, some PD, some RD, some (.int c), some Z, some (.int (j : Int)), some (.str t)] M := fun M => by simp [ix, nz, et]
  have se : ∀ M, exS P (Fw.run P T (k + 2)) (tB.getD 4 .pass) [some S, some PD, some RD, some (.int c), some Z, some (.int (j : Int)), some (.str u)] M = .ok .nx [some S, some PD, some RD, some (.int c), some Z, some (.int (j : Int)), some (.str u)] M := fun M => by
    simp [tB, bk, bmD, tk, dr, c1, c2, jo, nj, partD, partOk, isLN, -bin_lst]
  have sf : exS P (Fw.run P T (k + 2)) (tB.getD 5 .pass) [some S, some PD, some RD, some (.int c), some Z, some (.int (j : Int)), some (.str u)] M = .ok .nx [some S, some PD, some RD, some (.int c), some Z, some (.int (j : Int)), some (.str u)] M2 := by
    simp [tB, de, hM2, i3, m6, id6, n6, -idx_lst]
  show exSs P _ (_ :: _ :: _ :: _ :: tB.getD 4 .pass :: tB.getD 5 .pass :: []) _ M = _
  rw [ex_cons, sa, OutS.next_nx, ex_cons, sb, OutS.next_nx, ex_cons, sc, OutS.next_nx, ex_cons, hu, OutS.next_nx, ex_cons, se, OutS.next_nx, ex_cons, sf]
  rfl
end
end LawK25
namespace LawK25
open PySem Fw
theorem deeds_pl (pl : List Deed) : plainL 11 (pl.map deedD) = true := by
  induction pl with
  | nil => rfl
  | cons d r ih =>
    obtain ⟨b, i, j⟩ := d
    have e : Fw.plain 11 (deedD (b, i, j)) = true := by cases b <;> rfl
    rw [List.map_cons, plainL, e, ih]
    rfl
theorem law_true : ∀ ns : List Int, ns.length ≤ 63 → (∀ z ∈ ns, Builtin.Int.intBits z ≤ 1048576) → ∃ M, Fw.run P T 100 12 [.lst (ns.map D.int)] [] = .ok (.bl true) M := by
  intro ns hn hbits
  clear hbits
  obtain ⟨cs, h1, h12, ec⟩ : ∃ cs : List Int, 1 ≤ cs.length ∧ cs.length ≤ 12 ∧ ∃ M1, evE P (Fw.run P T 99) (.bin false .add (.sl false (.var 0) (.lit .non) (.lit (.int (10)))) (.bin false .mul (.lst true [(.lit (.int (3)))]) (.bi false .int [(.cmp .eq (.var 0) (.lst false []))]))) [some (.lst (ns.map D.int)), none, none, none, none, none, none] [] = .ok (.lst (cs.map D.int)) M1 := by
    have sl : ∀ M, slD false (.lst (ns.map D.int)) .non (.int 10) M = .ok (.lst ((ns.take 10).map D.int)) M := fun M => by
      simp [slD, optI, cut, sIx, List.map_take]
    have lv := line_val
    by_cases h : ns = []
    · subst h
      have q : ∀ M, eqM M (.lst []) (.lst []) = some true := fun _ => rfl
      refine ⟨[3], by decide, by decide, [.lst [.int 3]], ?_⟩
      have tm : binD false .mul (.ref 0) (.int 1) [.lst [.int 3]] = .ok (.lst [.int 3]) [.lst [.int 3]] := by
        show timesD false (.ref 0) (.int 1) [.lst [.int 3]] = _
        simp [timesD, lv]
      have bi : ∀ M, biD false .int [.bl true] M = .ok (.int 1) M := fun _ => rfl
      have ca : ∀ M, binD false .add (.lst []) (.lst [.int 3]) M = .ok (.lst [.int 3]) M := fun M => by
        simp [seqBin, catD, lv]
      have sl : ∀ M, slD false (.lst []) .non (.int 10) M = .ok (.lst []) M := sl
      show evE P _ _ [some (.lst []), none, none, none, none, none, none] [] = _
      simp [sl, q, bi, tm, ca, partD, partOk, isLN, -bin_lst, -bin_ref]
    · have q : ∀ M, eqM M (.lst (ns.map D.int)) (.lst []) = some false := fun M => by
        have e : eqD (.lst (ns.map D.int)) (.lst []) = false := by
          cases ns with
          | nil => exact absurd rfl h
          | cons a r => rfl
        have p1 : plain 12 (snap M 12 (.lst (ns.map D.int))) = true := by
          rw [snap_noRef 12 (.lst (ns.map D.int)) (noRefL_ints ns)]
          show plainL 11 (ns.map D.int) = true
          clear hn sl e h
          induction ns with
          | nil => rfl
          | cons a r ih => rw [List.map_cons, plainL, ih]; rfl
        unfold eqM
        rw [p1, if_pos (show (true && Fw.plain 12 (snap M 12 (.lst []))) = true from rfl), snap_noRef 12 (.lst (ns.map D.int)) (noRefL_ints ns)]
        exact congrArg some e
      refine ⟨ns.take 10, by have := List.length_pos_iff.mpr h; simp; omega, by simp; omega, [.lst [.int 3]], ?_⟩
      have tm : binD false .mul (.ref 0) (.int 0) [.lst [.int 3]] = .ok (.lst []) [.lst [.int 3]] := by
        show timesD false (.ref 0) (.int 0) [.lst [.int 3]] = _
        simp [timesD, lv]
      have bi : ∀ M, biD false .int [.bl false] M = .ok (.int 0) M := fun _ => rfl
      have ca : ∀ M, binD false .add (.lst ((ns.take 10).map D.int)) (.lst []) M = .ok (.lst ((ns.take 10).map D.int)) M := fun M => by
        have : ((ns.take 10).map D.int).length ≤ line := by simp; omega
        simp only [bin_lst, seqBin, catD, lstOf_lst, List.length_nil, Nat.add_zero, List.append_nil, if_pos this, mkL_f]
      generalize D.lst ((ns.take 10).map D.int) = X at *
      generalize D.lst (ns.map D.int) = A at *
      simp [sl, q, bi, tm, ca, partD, partOk, isLN, -bin_lst, -bin_ref]
  obtain ⟨M1, ec⟩ := ec
  obtain ⟨pl, hl, hs, e9⟩ := plan_ok (k := 99) (by decide) (cs := cs) h12
  rw [← hl] at h1 h12
  have hp : pl ≠ [] := by rintro rfl; simp at h1
  have e2 := (shown_ok (P := P) (T := T) (n := 2) rfl (k := 99) (by decide) hs (by omega)).own
  have e9 := e9.own
  have nc : noRef (.lst (cs.map D.int)) = true := noRefL_ints cs
  have np : noRef (.lst (pl.map deedD)) = true := deeds_noRef pl
  have sp : ∀ M, splitD false (.str (planL pl)) [.str [59, 32]] M = .ok (.lst ((pl.map rowL).map D.str)) M := fun M => by
    rw [split_any (planL_txt hs (by omega)) false (by decide) M, spl_rows hp]
    rfl
  have jo : ∀ M, joinD (.str [59, 32]) [.lst ((pl.map rowL).map D.str)] M = .ok (.str (planL pl)) M := fun M => join_ok (n := 146) (rows_len hs) (by simp; omega) rfl
  have rd : ∀ M, ownD (Fw.run P T 99 5 [.str (planL pl)] []) M = .ok (.lst (pl.map deedD)) M := fun M => by
    rw [readX_ok (P := P) (T := T) (n := 5) (di := 4) (ni := 3) (g := 0) (c := 4) hg0 rfl rfl rfl (k := 98) (by decide) hp hs (by omega) []]
    unfold ownD
    simp only
    rw [snap_noRef 8 _ np, np]
    rfl
  have eqp : ∀ M, eqM M (.lst (pl.map deedD)) (.lst (pl.map deedD)) = some true := fun M => eqM_self np (show plainL 11 (pl.map deedD) = true from deeds_pl pl) M
  obtain ⟨xs, ex⟩ : ∃ xs : List Int, ∀ M, evL P (Fw.run P T 99) [(.bin false .add (.sl false (.var 0) (.lit (.int (10))) (.lit (.int (60)))) (.lst false [(.bi false .len [(.var 0)]), (.bin false .add (.bi false .len [(.var 0)]) (.lit (.int (1))))]))] [some (.lst (ns.map D.int)), some (.lst (pl.map deedD)), some (.lst ((pl.map rowL).map D.str)), none, none, none, none] M = .ok [.lst (xs.map D.int)] M := by
    refine ⟨(ns.take 60).drop 10 ++ [(ns.length : Int), (ns.length : Int) + 1], fun M => ?_⟩
    have lv := line_val
    have sl : ∀ M, slD false (.lst (ns.map D.int)) (.int 10) (.int 60) M = .ok (.lst (((ns.take 60).drop 10).map D.int)) M := fun M => by
      have e : cut (ns.map D.int) (some 10) (some 60) = ((ns.take 60).drop 10).map D.int := by
        show ((ns.map D.int).drop (min 10 (ns.map D.int).length)).take (min 60 (ns.map D.int).length - min 10 (ns.map D.int).length) = _
        rw [List.length_map, List.map_drop, List.map_take, List.drop_take]
        by_cases g : ns.length ≤ 10
        · rw [Nat.min_eq_right g, List.drop_of_length_le (by simp), List.drop_of_length_le (by simp; omega)]
          simp
        · rw [Nat.min_eq_left (a := 10) (by omega)]
          by_cases g2 : ns.length ≤ 60
          · rw [Nat.min_eq_right g2, List.take_of_length_le (by simp), List.take_of_length_le (by simp; omega)]
          · rw [Nat.min_eq_left (by omega)]
      show mkL false (cut (ns.map D.int) (some 10) (some 60)) M = _
      rw [e, mkL_f]
    have ln : ∀ M, biD false .len [.lst (ns.map D.int)] M = .ok (.int (ns.length : Int)) M := fun M => by simp [biD, lenD, lenD1]
    have ca : ∀ M, binD false .add (.lst (((ns.take 60).drop 10).map D.int)) (.lst [.int (ns.length : Int), .int ((ns.length : Int) + 1)]) M = .ok (.lst (((ns.take 60).drop 10 ++ [(ns.length : Int), (ns.length : Int) + 1]).map D.int)) M := fun M => by
      have : (((ns.take 60).drop 10).map D.int).length + [D.int (ns.length : Int), .int ((ns.length : Int) + 1)].length ≤ line := by simp; omega
      simp only [bin_lst, seqBin, catD, lstOf_lst, if_pos this, mkL_f, List.map_append]
      rfl
    generalize D.lst (((ns.take 60).drop 10 ++ [(ns.length : Int), (ns.length : Int) + 1]).map D.int) = Y at *
    generalize D.lst (((ns.take 60).drop 10).map D.int) = X at *
    generalize D.lst (ns.map D.int) = A at *
    simp [sl, ln, ca, partD, partOk, isLN, -bin_lst]
  obtain ⟨σ', M', el, b3, b4, b5, b6, rfl, _⟩ := forL_all (bind := bindTg [3]) (b := exSs P (Fw.run P T 99) tB) (g := [])
    (fun r σ M => ∃ b3 b4 b5 b6, σ = [some (.lst (ns.map D.int)), some (.lst (pl.map deedD)), some (.lst ((pl.map rowL).map D.str)), b3, b4, b5, b6] ∧ ∀ x ∈ r, ∃ c : Int, x = .int c) (fun _ _ _ _ => by simp)
    (by
      rintro x r σ M ⟨b3, b4, b5, b6, rfl, hx⟩
      obtain ⟨c, rfl⟩ := hx x (by simp)
      obtain ⟨t4, t5, t6, M', e⟩ := turn (k := 97) hs h1 h12 c b4 b5 b6 M (by decide)
      exact ⟨_, _, _, rfl, .inl e, some (.int c), t4, t5, t6, rfl, fun y hy => hx y (List.mem_cons_of_mem _ hy)⟩)
    (xs.map D.int) [some (.lst (ns.map D.int)), some (.lst (pl.map deedD)), some (.lst ((pl.map rowL).map D.str)), none, none, none, none] M1 ⟨none, none, none, none, rfl, fun x hx => by
      obtain ⟨c, _, rfl⟩ := List.mem_map.mp hx
      exact ⟨c, rfl⟩⟩
  refine ⟨M', ?_⟩
  rw [run_succ (F := F12) rfl rfl]
  have it : ∀ M, itsD .seq [.lst (xs.map D.int)] M = some (xs.map D.int, []) := fun _ => rfl
  have bk : ∀ M, bmOk .split (.str (planL pl)) M = true := fun _ => rfl
  have bj : ∀ M, bmOk .join (.str [59, 32]) M = true := fun _ => rfl
  have s1 : exS P (Fw.run P T 99) (F12.body.getD 0 .pass) [some (.lst (ns.map D.int)), none, none, none, none, none, none] [] = .ok .nx [some (.lst (ns.map D.int)), some (.lst (pl.map deedD)), none, none, none, none, none] M1 := by
    show exS P _ (.asg (.name 1) (.call true 9 [_])) _ _ = _
    rw [ex_name, ev_callT, ev_cons, ec]
    simp [nc, e9]
  have s2 : exS P (Fw.run P T 99) (F12.body.getD 1 .pass) [some (.lst (ns.map D.int)), some (.lst (pl.map deedD)), none, none, none, none, none] M1 = .ok .nx [some (.lst (ns.map D.int)), some (.lst (pl.map deedD)), some (.lst ((pl.map rowL).map D.str)), none, none, none, none] M1 := by
    show exS P _ (.asg (.name 2) (.bm false .split (.call true 2 [(.var 1)]) [(.lit (.str [59, 32]))])) _ _ = _
    generalize D.lst ((pl.map rowL).map D.str) = R at *
    generalize D.lst (pl.map deedD) = PD at *
    generalize planL pl = pt at *
    simp [np, e2, bk, bmD, sp]
  have s3 : exS P (Fw.run P T 99) (F12.body.getD 2 .pass) [some (.lst (ns.map D.int)), some (.lst (pl.map deedD)), some (.lst ((pl.map rowL).map D.str)), none, none, none, none] M1 = .ok .nx [some (.lst (ns.map D.int)), some (.lst (pl.map deedD)), some (.lst ((pl.map rowL).map D.str)), b3, b4, b5, b6] M' := by
    show exS P _ (.loop [3] .seq [_] tB) _ _ = _
    rw [ex_loop, ex]
    simp only [Out.st_ok, it]
    exact el
  have s4 : exS P (Fw.run P T 99) (F12.body.getD 3 .pass) [some (.lst (ns.map D.int)), some (.lst (pl.map deedD)), some (.lst ((pl.map rowL).map D.str)), b3, b4, b5, b6] M' = .ok (.ret (.bl true)) [some (.lst (ns.map D.int)), some (.lst (pl.map deedD)), some (.lst ((pl.map rowL).map D.str)), b3, b4, b5, b6] M' := by
    show exS P _ (.ret (.cmp .eq (.call true 5 [(.bm false .join (.lit (.str [59, 32])) [(.var 2)])]) (.var 1))) _ _ = _
    generalize D.lst ((pl.map rowL).map D.str) = R at *
    generalize D.lst (pl.map deedD) = PD at *
    generalize planL pl = pt at *
    simp [bj, bmD, jo, rd, eqp]
  have hb : F12.body = [F12.body.getD 0 .pass, F12.body.getD 1 .pass, F12.body.getD 2 .pass, F12.body.getD 3 .pass] := rfl
  show endS (exSs P (Fw.run P T 99) F12.body [some (.lst (ns.map D.int)), none, none, none, none, none, none] []) = _
  rw [hb, ex_cons, s1, OutS.next_nx, ex_cons, s2, OutS.next_nx, ex_cons, s3, OutS.next_nx, ex_cons, s4]
  rfl
end LawK25
open PySem PySem.W PySem.Calls PyProof.Rows
theorem PySem.Challenge.cw_chalkline_k25_no_plan_holds : PySem.Challenge.rw_chalkline_k25_no_plan.Holds := by
  w_on; o_law
  refine HandSHeadRun.head_any (r := OpenLaw.row PySem.Challenge.rw_chalkline_k25_no_plan) (q := view (OpenLaw.row PySem.Challenge.rw_chalkline_k25_no_plan).prog [30]) (H := LawK25.hk) (ob := LawK25.ob) (M := 30000) (loose := LawK25.loose) (d := HandSHeadRun.topDef (OpenLaw.row PySem.Challenge.rw_chalkline_k25_no_plan).prog 30) (kwd := []) LawK25.ob_eq
    (by kernel_rfl) (fun s => by kernel_rfl) LawK25.headRun (by kernel_rfl) (by kernel_rfl) (by kernel_rfl) (by rfl) (by first | assumption | decide +kernel) (by decide +kernel) ⟨rfl, rfl, rfl, rfl, rfl, by decide +kernel⟩ ?hw ?hc
  case hw => w_witness2
  case hc =>
    refine Fw.law_walk (l := PySem.Challenge.rw_chalkline_k25_no_plan) (n := 63) (k := 100) (lf := 12) (tb := LawK25.tb) rfl (by decide) (by kernel_rfl) ⟨rfl, by decide, by decide⟩ (by decide +kernel) ?F LawK25.law_true
    intro w mg fa h Y G hmg0
    obtain ⟨K, KX, c⟩ := Y
    exact ⟨LawK25.ct K, KX, LawK25.topOk KX G c.t.d c.more, LawK25.funsAt KX G c.t.d, LawK25.glOk K c.more⟩
