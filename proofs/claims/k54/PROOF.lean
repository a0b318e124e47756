import PyProof.Rows.All
import Wide.All
import OpenK.AllK
import Wide.FinOn
import PySem.Challenge.RW_latesights_k54_whole_runs_of_houses_side
import HandS.ForMost
import HandS.Deep
import HandS.IsInst
import HandS.Star
import HandS.TupAny
import HandS.TupMul
import HandS.Walk
import HandS.Flow
import HandS.Conv
import HandS.WordsDict
import KE.GoesNew
import KE.GoesMore
import KE.GoesEnum
import HandS.DictComp
import HandS.Style
import HandS.Strs
import KE.KDictZip
import PyProof.DictUpdate
import KE.GoesZip
import HandS.Codes
import HandS.Words
import HandS.HeadHook2
import HandS.Defaults
import KE.KStateDown
import Lean
import HandS.Ends
import HandS.WordsExc
import HandS.Head0
import HandS.Head1
import HandS.Head2
import HandS.HeadEnd
import HandS.HeadHook1
import HandS.HeadHook4
set_option Elab.async false
set_option linter.all false
namespace Lt
open PySem

/-! ### deep values, results, environments -/
/-- a value with all that hangs on it; tin: the source of draws (one list of three numbers, kept apart); scr: the script -/
inductive D where
  | non | bl (b : Bool) | int (i : Int) | str (x : Str)
  | tup (xs : List D) | lst (xs : List D) | dct (ks : List Int) (vs : List D) | tin | scr (ns : List Int)
/-- a value that nobody changes; a list of our own; a list of lists of our own -/
inductive R where
  | p (d : D) | o1 (xs : List D) | o2 (xss : List (List D))
def R.fz : R → D
  | .p d => d
  | .o1 xs => .lst xs
  | .o2 xss => .lst (xss.map .lst)
mutual
/-- no list, no dict, no source in it -/
def D.nl : D → Bool
  | .non => true
  | .bl _ => true
  | .int _ => true
  | .str _ => true
  | .tup xs => D.nls xs
  | .lst _ => false
  | .dct _ _ => false
  | .tin => false
  | .scr _ => false
def D.nls : List D → Bool
  | [] => true
  | d :: ds => d.nl && D.nls ds
end
def R.clean : R → Bool
  | .p d => d.nl
  | .o1 xs => D.nls xs
  | .o2 xss => xss.all D.nls
abbrev Env := List (Option R)
abbrev Tin := List Int
def frozen (r : Env) : Env := r.map fun o => o.map fun x => .p x.fz
def wipeE (r : Env) : List Nat → Env
  | [] => r
  | v :: vs => (wipeE r vs).set v none
/-- the longest list that we make -/
def LIM : Nat := 1000000

/-! ### syntax -/
inductive Cop where
  | lt | le | gt | ge | eq | ne | in_ | nin | is_ | isn
  deriving DecidableEq
inductive Ty where
  | int | bool | tuple | str | list
  deriving DecidableEq
inductive Bi where
  | len | all_ | any_ | tuple | list | abs | int | max2 | min2 | maxl | sorted
  deriving DecidableEq
inductive Tg where
  | one (i : Nat) | many (is : List Nat)
inductive Tm where
  | var (i : Nat) | int (i : Int) | str (s : Str) | bl (b : Bool) | non | glb (x : Str) (i : Int) | gls (x s : Str)
  | nl | cn (a r : Tm) | cs (a r : Tm)
  | tup (r : Tm) | lst (r : Tm)
  | add (a b : Tm) | sub (a b : Tm) | mul (a b : Tm) | mod (a b : Tm) | fdiv (a b : Tm) | pow (a b : Tm) | neg (a : Tm)
  | cmp (o : Cop) (a b : Tm) | chn (o1 o2 : Cop) (a b c : Tm)
  | and_ (a b : Tm) | or_ (a b : Tm) | not_ (a : Tm) | orl (a b : Tm) | ite (c a b : Tm)
  | fn (f : Nat) (r : Tm) | fnt (f : Nat) (a : Tm)
  | bi (b : Bi) (r : Tm) | isi (ks : List Ty) (a : Tm) | lset (a : Tm) | lrng (a : Tm)
  | idx (a b : Tm) | slc (a lo hi : Tm) | mix (a b : Tm)
  | lc (own : List Nat) (tg : Tg) (it cd elt : Tm) (k : Bool)
  | lc2 (own : List Nat) (i : Nat) (it : Tm) (j : Nat) (jt elt : Tm)
  | dc (own : List Nat) (tg : Tg) (it kx vx : Tm)
  | dmg (i j k : Nat)
  | rng (a : Tm) | enm (a : Tm) | zp (a b : Tm) | sq (a : Tm) | ch (a : Tm) | sm (a : Tm)
  | brw (a : Tm)
inductive Stm where
  | nil | seq (a b : Stm)
  | asg (i : Nat) (own : Bool) (t : Tm) | mov (i j : Nat)
  | unp (is : List Nat) (t : Tm) | par (i j : Nat) (oi oj : Bool) (a b : Tm) | tri (i j k : Nat) (oi oj ok : Bool) (a b c : Tm) | par3 (i j k : Nat) (a b : Tm)
  | frz (i : Nat)
  | app (i : Nat) (t : Tm) | app2 (i : Nat) (e t : Tm) | sto (i : Nat) (e t : Tm) | apop (i j : Nat) (t : Tm)
  | ret (t : Tm) | retv (i : Nat) | rai | exp (t : Tm)
  | ife (c : Tm) (a b : Stm) | for_ (tg : Tg) (it : Tm) (body : Stm)

/-! ### operations -/
mutual
def D.pd : D → PyData
  | .non => .none
  | .bl b => .bool b
  | .int i => .int i
  | .str x => .str x
  | .tup xs => .tuple (D.pds xs)
  | .lst xs => .list (D.pds xs)
  | .dct _ _ => .dict []
  | .tin => .dict []
  | .scr _ => .dict []
def D.pds : List D → List PyData
  | [] => []
  | d :: ds => d.pd :: D.pds ds
end
def D.ok (d : D) : Bool := SeqAt.shaped d.pd
def deq (a b : D) : Bool := PyData.eqv a.pd b.pd
def D.sc : D → Option L2.V
  | .non => some .non
  | .bl b => some (.bl b)
  | .int i => some (.int i)
  | .str x => some (.str x)
  | _ => none
def asInt : D → Option Int
  | .int i => some i
  | _ => none
def asInts : List D → Option (List Int)
  | [] => some []
  | .int i :: r => match asInts r with
    | some is => some (i :: is)
    | none => none
  | _ :: _ => none
def asBls : List D → Option (List Bool)
  | [] => some []
  | .bl i :: r => match asBls r with
    | some is => some (i :: is)
    | none => none
  | _ :: _ => none
def addD : D → D → Option R
  | .int i, .int j => some (.p (.int (i + j)))
  | .lst a, .lst b => if a.length + b.length ≤ LIM then some (.o1 (a ++ b)) else none
  | .tup a, .tup b => if a.length + b.length ≤ LIM then some (.p (.tup (a ++ b))) else none
  | _, _ => none
def subD : D → D → Option R
  | .int i, .int j => some (.p (.int (i - j)))
  | _, _ => none
def smallI (i : Int) : Bool := decide (-(2 ^ 64) < i) && decide (i < 2 ^ 64)
def mulD : D → D → Option R
  | .int i, .int j => if smallI i || smallI j then some (.p (.int (i * j))) else none
  | .tup a, .int k => if a.length ≠ 0 ∧ 1 ≤ k ∧ k ≤ 1000 ∧ a.length ≤ 1000 then some (.p (.tup (List.replicate k.toNat a).flatten)) else none
  | _, _ => none
def modD : D → D → Option R
  | .int i, .int j => if 0 < j then some (.p (.int (i % j))) else none
  | _, _ => none
def fdivD : D → D → Option R
  | .int i, .int j => if 0 < j ∧ j < 1073741824 then some (.p (.int (i / j))) else none
  | _, _ => none
def powD : D → D → Option R
  | .int i, .int j => if 0 ≤ j ∧ j ≤ 1000 ∧ -1000 ≤ i ∧ i ≤ 1000 then some (.p (.int (i ^ j.toNat))) else none
  | _, _ => none
def negD : D → Option R
  | .int i => some (.p (.int (-i)))
  | _ => none
def eqD (a b : D) : Option Bool :=
  match a.sc, b.sc with
  | some x, some y => if L2.scal x y then some (decide (x = y)) else none
  | _, _ => if a.ok && b.ok then some (deq a b) else none
def inD (a b : D) : Option Bool :=
  match b with
  | .lst ds => if a.ok && b.ok then some (ds.any fun z => deq z a) else none
  | .tup ds => match a, asInts ds with
    | .int i, some is => some (decide (i ∈ is))
    | _, _ => none
  | .str y => match a with
    | .str x => some (!(Builtin.Str.occurrences y x 0 y.length 1).isEmpty)
    | _ => none
  | _ => none
def cmpD (o : Cop) (a b : D) : Option Bool :=
  match o with
  | .lt => match a, b with
    | .int i, .int j => some (decide (i < j))
    | _, _ => none
  | .le => match a, b with
    | .int i, .int j => some (decide (i ≤ j))
    | _, _ => none
  | .gt => match a, b with
    | .int i, .int j => some (decide (j < i))
    | _, _ => none
  | .ge => match a, b with
    | .int i, .int j => some (decide (j ≤ i))
    | _, _ => none
  | .eq => eqD a b
  | .ne => match eqD a b with
    | some c => some (!c)
    | none => none
  | .in_ => inD a b
  | .nin => match inD a b with
    | some c => some (!c)
    | none => none
  | .is_ => match b with
    | .non => match a with
      | .non => some true
      | _ => some false
    | _ => none
  | .isn => match b with
    | .non => match a with
      | .non => some false
      | _ => some true
    | _ => none
def isT : Ty → D → Option Bool
  | _, .tin => none
  | _, .scr _ => none
  | .int, .int _ => some true
  | .int, .bl _ => some true
  | .bool, .bl _ => some true
  | .tuple, .tup _ => some true
  | .str, .str _ => some true
  | .list, .lst _ => some true
  | _, _ => some false
def isTs : List Ty → D → Option Bool
  | [], _ => some false
  | t :: ts, d => match isT t d with
    | some true => some true
    | some false => isTs ts d
    | none => none
/-- insertion sort -/
def insI (i : Int) : List Int → List Int
  | [] => [i]
  | j :: r => if i ≤ j then i :: j :: r else j :: insI i r
def sortI : List Int → List Int
  | [] => []
  | i :: r => insI i (sortI r)
def maxI : Int → List Int → Int
  | m, [] => m
  | m, i :: r => maxI (if m < i then i else m) r
def lenD : List D → Option R
  | [.lst xs] => some (.p (.int xs.length))
  | [.tup xs] => some (.p (.int xs.length))
  | [.dct ks _] => some (.p (.int ks.length))
  | [.str x] => if x.length ≤ LIM then some (.p (.int x.length)) else none
  | _ => none
def allD : List D → Option R
  | [.lst xs] => match asBls xs with
    | some bs => some (.p (.bl (bs.all id)))
    | none => none
  | _ => none
def anyD : List D → Option R
  | [.lst xs] => match asBls xs with
    | some bs => some (.p (.bl (bs.any id)))
    | none => none
  | _ => none
def tupD : List D → Option R
  | [.lst xs] => some (.p (.tup xs))
  | [.tup xs] => some (.p (.tup xs))
  | _ => none
def lstD : List D → Option R
  | [.lst xs] => some (.o1 xs)
  | [.tup xs] => some (.o1 xs)
  | _ => none
def absD : List D → Option R
  | [.int i] => some (.p (.int (if i < 0 then -i else i)))
  | _ => none
def intD : List D → Option R
  | [.int i] => some (.p (.int i))
  | [.bl k] => some (.p (.int (if k then 1 else 0)))
  | _ => none
def max2D : List D → Option R
  | [.int i, .int j] => some (.p (.int (if j > i then j else i)))
  | _ => none
def min2D : List D → Option R
  | [.int i, .int j] => some (.p (.int (if j < i then j else i)))
  | _ => none
def maxlD : List D → Option R
  | [.lst xs] => match asInts xs with
    | some (i :: r) => some (.p (.int (maxI i r)))
    | _ => none
  | _ => none
def srtD : List D → Option R
  | [.lst xs] => match asInts xs with
    | some is => if is.length < 64 then some (.o1 ((sortI is).map .int)) else none
    | none => none
  | _ => none
def biD (b : Bi) (ds : List D) : Option R :=
  match b with
  | .len => lenD ds
  | .all_ => allD ds
  | .any_ => anyD ds
  | .tuple => tupD ds
  | .list => lstD ds
  | .abs => absD ds
  | .int => intD ds
  | .max2 => max2D ds
  | .min2 => min2D ds
  | .maxl => maxlD ds
  | .sorted => srtD ds
def idxD (ts : Tin) : D → D → Option D
  | .lst xs, .int i => L2.atI xs i
  | .tup xs, .int i => L2.atI xs i
  | .dct ks vs, .int i => ((ks.zip vs).find? fun kv => decide (kv.1 = i)).map (·.2)
  | .tin, .int i => (L2.atI ts i).map .int
  | _, _ => none
def cutL {α : Type} (xs : List α) (lo hi : Option Int) : List α := (xs.drop (HT.sIx xs.length 0 lo)).take (HT.sIx xs.length xs.length hi - HT.sIx xs.length 0 lo)
def slcD : D → Option Int → Option Int → Option R
  | .lst xs, lo, hi => some (.o1 (cutL xs lo hi))
  | .tup xs, lo, hi => some (.p (.tup (cutL xs lo hi)))
  | .scr ns, lo, hi => some (.o1 ((cutL ns lo hi).map .int))
  | _, _, _ => none
/-- the first place of an equal one -/
def findD (d : D) : List D → Nat → Option Nat
  | [], _ => none
  | x :: r, n => if deq x d then some n else findD d r (n + 1)
def mixD : D → D → Option R
  | .lst xs, d => if d.ok && (D.lst xs).ok then (findD d xs 0).map fun (n : Nat) => R.p (.int (n : Int)) else none
  | _, _ => none
/-- a dict's entries with one more -/
def putD (ks : List Int) (vs : List D) (k : Int) (v : D) : List Int × List D :=
  if k ∈ ks then (ks, (ks.zip vs).map fun kv => if kv.1 = k then v else kv.2) else (ks ++ [k], vs ++ [v])
def putsD : List Int → List D → List Int → List D → List Int × List D
  | ks, vs, k :: r, v :: s => putsD (putD ks vs k v).1 (putD ks vs k v).2 r s
  | ks, vs, _, _ => (ks, vs)
def dmgD : D → D → D → Option D
  | .dct ks vs, .tup as, .tup bs => match asInts as with
    | some is => if as.length + ks.length ≤ LIM ∧ D.nls vs = true ∧ D.nls bs = true then
        some (.dct (putsD (putsD [] [] ks vs).1 (putsD [] [] ks vs).2 (putsD [] [] is bs).1 (putsD [] [] is bs).2).1 (putsD (putsD [] [] ks vs).1 (putsD [] [] ks vs).2 (putsD [] [] is bs).1 (putsD [] [] is bs).2).2) else none
    | none => none
  | _, _, _ => none
def seqD : D → Option (List D)
  | .lst xs => some xs
  | .tup xs => some xs
  | _ => none
def upto : Nat → Nat → List D
  | _, 0 => []
  | k, n + 1 => .int k :: upto (k + 1) n
def rngD : D → Option (List D)
  | .int n => if -1000000 ≤ n ∧ n ≤ 1000000 then some (upto 0 n.toNat) else none
  | _ => none
def enmD : Nat → List D → List D
  | _, [] => []
  | k, d :: r => .tup [.int k, d] :: enmD (k + 1) r
def zipD : List D → List D → List D
  | a :: r, b :: s => .tup [a, b] :: zipD r s
  | _, _ => []
def getE : Env → Nat → Option R
  | [], _ => none
  | x :: _, 0 => x
  | _ :: r, n + 1 => getE r n
def setE : Env → Nat → Option R → Env
  | [], _, _ => []
  | _ :: r, 0, y => y :: r
  | x :: r, n + 1, y => x :: setE r n y
def setEs : Env → List Nat → List D → Option Env
  | ρ, [], [] => some ρ
  | ρ, i :: is, d :: ds => setEs (setE ρ i (some (.p d))) is ds
  | _, _, _ => none
def setTg : Env → Tg → D → Option Env
  | ρ, .one i, d => some (setE ρ i (some (.p d)))
  | ρ, .many is, .tup ds => setEs ρ is ds
  | _, .many _, _ => none

def asStrs : List D → Option (List Str)
  | [] => some []
  | .str i :: r => match asStrs r with
    | some is => some (i :: is)
    | none => none
  | _ :: _ => none
def lsetD : D → Option R
  | .tup xs => match asStrs xs with
    | some ss => if ss.Nodup ∧ ss.length < 1000 then some (.p (.int (ss.length : Int))) else none
    | none => none
  | _ => none
def ev1 (f : D → Option R) (a : Tin → Option (R × Tin)) (ts : Tin) : Option (R × Tin) :=
  match a ts with
  | some (x, ts1) => (f x.fz).map fun r => (r, ts1)
  | none => none
def ev2 (f : D → D → Option R) (a b : Tin → Option (R × Tin)) (ts : Tin) : Option (R × Tin) :=
  match a ts with
  | some (x, ts1) => match b ts1 with
    | some (y, ts2) => (f x.fz y.fz).map fun r => (r, ts2)
    | none => none
  | none => none
def evB (a : Tin → Option (R × Tin)) (ts : Tin) : Option (R × Tin) :=
  match a ts with
  | some (.p (.bl c), ts1) => some (.p (.bl c), ts1)
  | _ => none

/-! ### the evaluator -/
/-- what the defs do: by their numbers -/
abbrev FT := Nat → List D → Tin → Option (R × Tin)
abbrev Ev (α : Type) := Tin → Option (α × Tin)
/-- a comprehension's turns -/
def compL (f : D → Ev (Option R)) : List D → Ev (List R)
  | [], ts => some ([], ts)
  | x :: xs, ts => match f x ts with
    | none => none
    | some (o, ts1) => match compL f xs ts1 with
      | none => none
      | some (rs, ts2) => match o with
        | some r => some (r :: rs, ts2)
        | none => some (rs, ts2)
def allO1 : List R → Option (List (List D))
  | [] => some []
  | .o1 xs :: r => match allO1 r with
    | some xss => some (xs :: xss)
    | none => none
  | _ :: _ => none
/-- the new list: of lists of our own, or of what stays as it is -/
def joinR (k : Bool) (rs : List R) : Option R :=
  if k then (allO1 rs).map .o2 else some (.o1 (rs.map R.fz))
def dcL (f : D → Ev (Int × D)) : List D → List Int → List D → Ev D
  | [], ks, vs, ts => some (.dct ks vs, ts)
  | x :: xs, ks, vs, ts => match f x ts with
    | none => none
    | some ((k, v), ts1) => dcL f xs (putD ks vs k v).1 (putD ks vs k v).2 ts1
def lc2L (f : D → D → Ev R) (g : D → Ev (List D)) : List D → Ev (List R)
  | [], ts => some ([], ts)
  | x :: xs, ts => match g x ts with
    | none => none
    | some (ys, ts1) => match compL (fun y ts => match f x y ts with
        | some (r, ts') => some (some r, ts')
        | none => none) ys ts1 with
      | none => none
      | some (rs, ts2) => match lc2L f g xs ts2 with
        | none => none
        | some (rs2, ts3) => some (rs ++ rs2, ts3)

mutual
/-- an expression -/
def ev (F : FT) : Tm → Env → Ev R
  | .var i, ρ, ts => match getE ρ i with
    | some (.p d) => some (.p d, ts)
    | _ => none
  | .int i, _, ts => some (.p (.int i), ts)
  | .str s, _, ts => some (.p (.str s), ts)
  | .bl b, _, ts => some (.p (.bl b), ts)
  | .non, _, ts => some (.p .non, ts)
  | .glb _ i, _, ts => some (.p (.int i), ts)
  | .gls _ s, _, ts => some (.p (.str s), ts)
  | .tup r, ρ, ts => match evL F r ρ ts with
    | some (ds, ts1) => if ds.length ≤ LIM then some (.p (.tup ds), ts1) else none
    | none => none
  | .lst r, ρ, ts => match evL F r ρ ts with
    | some (ds, ts1) => if ds.length ≤ LIM then some (.o1 ds, ts1) else none
    | none => none
  | .add a b, ρ, ts => ev2 addD (ev F a ρ) (ev F b ρ) ts
  | .sub a b, ρ, ts => ev2 subD (ev F a ρ) (ev F b ρ) ts
  | .mul a b, ρ, ts => ev2 mulD (ev F a ρ) (ev F b ρ) ts
  | .mod a b, ρ, ts => ev2 modD (ev F a ρ) (ev F b ρ) ts
  | .fdiv a b, ρ, ts => ev2 fdivD (ev F a ρ) (ev F b ρ) ts
  | .pow a b, ρ, ts => ev2 powD (ev F a ρ) (ev F b ρ) ts
  | .neg a, ρ, ts => ev1 negD (ev F a ρ) ts
  | .cmp o a b, ρ, ts => ev2 (fun x y => (cmpD o x y).map fun c => .p (.bl c)) (ev F a ρ) (ev F b ρ) ts
  | .chn o1 o2 a b c, ρ, ts => match ev F a ρ ts with
    | some (x, ts1) => match ev F b ρ ts1 with
      | some (y, ts2) => match cmpD o1 x.fz y.fz with
        | some true => match ev F c ρ ts2 with
          | some (z, ts3) => match cmpD o2 y.fz z.fz with
            | some k => some (.p (.bl k), ts3)
            | none => none
          | none => none
        | some false => some (.p (.bl false), ts2)
        | none => none
      | none => none
    | none => none
  | .and_ a b, ρ, ts => match ev F a ρ ts with
    | some (.p (.bl true), ts1) => evB (ev F b ρ) ts1
    | some (.p (.bl false), ts1) => some (.p (.bl false), ts1)
    | _ => none
  | .or_ a b, ρ, ts => match ev F a ρ ts with
    | some (.p (.bl true), ts1) => some (.p (.bl true), ts1)
    | some (.p (.bl false), ts1) => evB (ev F b ρ) ts1
    | _ => none
  | .not_ a, ρ, ts => match ev F a ρ ts with
    | some (.p (.bl c), ts1) => some (.p (.bl (!c)), ts1)
    | _ => none
  | .orl a b, ρ, ts => match ev F a ρ ts with
    | some (.o1 (x :: xs), ts1) => some (.o1 (x :: xs), ts1)
    | some (.o1 [], ts1) => ev F b ρ ts1
    | _ => none
  | .ite c a b, ρ, ts => match ev F c ρ ts with
    | some (.p (.bl true), ts1) => ev F a ρ ts1
    | some (.p (.bl false), ts1) => ev F b ρ ts1
    | _ => none
  | .fn f r, ρ, ts => match evL F r ρ ts with
    | some (ds, ts1) => match F f ds ts1 with
      | some (r, ts2) => if r.clean then some (r, ts2) else none
      | none => none
    | none => none
  | .fnt f a, ρ, ts => match ev F a ρ ts with
    | some (.o1 xs, ts1) => match asInts xs with
      | some is => match F f [.tin] is with
        | some (r, _) => if r.clean then some (r, ts1) else none
        | none => none
      | none => none
    | _ => none
  | .bi b r, ρ, ts => match evL F r ρ ts with
    | some (ds, ts1) => (biD b ds).map fun r => (r, ts1)
    | none => none
  | .isi ks a, ρ, ts => ev1 (fun d => (isTs ks d).map fun c => .p (.bl c)) (ev F a ρ) ts
  | .lset a, ρ, ts => ev1 lsetD (ev F a ρ) ts
  | .lrng a, ρ, ts => ev1 (fun d => (rngD d).map .o1) (ev F a ρ) ts
  | .idx a b, ρ, ts => match ev F a ρ ts with
    | some (x, ts1) => match ev F b ρ ts1 with
      | some (y, ts2) => (idxD ts2 x.fz y.fz).map fun d => (.p d, ts2)
      | none => none
    | none => none
  | .slc a lo hi, ρ, ts => match ev F a ρ ts with
    | some (x, ts1) => match evO F lo ρ ts1 with
      | some (l, ts2) => match evO F hi ρ ts2 with
        | some (h, ts3) => (slcD x.fz l h).map fun r => (r, ts3)
        | none => none
      | none => none
    | none => none
  | .mix a b, ρ, ts => ev2 mixD (ev F a ρ) (ev F b ρ) ts
  | .lc own tg it cd elt k, ρ, ts => match evI F it ρ ts with
    | some (xs, ts1) => match compL (fun x ts => match setTg (wipeE ρ own) tg x with
        | none => none
        | some ρ1 => match ev F cd ρ1 ts with
          | some (.p (.bl true), ts2) => match ev F elt ρ1 ts2 with
            | some (r, ts3) => some (some r, ts3)
            | none => none
          | some (.p (.bl false), ts2) => some (none, ts2)
          | _ => none) xs ts1 with
      | some (rs, ts2) => (joinR k rs).map fun r => (r, ts2)
      | none => none
    | none => none
  | .lc2 own i it j jt elt, ρ, ts => match evI F it ρ ts with
    | some (xs, ts1) => match lc2L (fun x y ts => ev F elt (setE (setE (wipeE ρ own) i (some (.p x))) j (some (.p y))) ts) (fun x ts => evI F jt (setE (wipeE ρ own) i (some (.p x))) ts) xs ts1 with
      | some (rs, ts2) => if rs.length ≤ LIM then some (.o1 (rs.map R.fz), ts2) else none
      | none => none
    | none => none
  | .dc own tg it kx vx, ρ, ts => match evI F it ρ ts with
    | some (xs, ts1) => match dcL (fun x ts => match setTg (wipeE ρ own) tg x with
        | none => none
        | some ρ1 => match ev F kx ρ1 ts with
          | some (.p (.int k), ts2) => match ev F vx ρ1 ts2 with
            | some (r, ts3) => if r.fz.nl then some ((k, r.fz), ts3) else none
            | none => none
          | _ => none) xs [] [] ts1 with
      | some (d, ts2) => some (.p d, ts2)
      | none => none
    | none => none
  | .dmg i j k, ρ, ts => match getE ρ i, getE ρ j, getE ρ k with
    | some (.p x), some (.p y), some (.p z) => (dmgD x y z).map fun d => (.p d, ts)
    | _, _, _ => none
  | .brw a, ρ, ts => match ev F a (frozen ρ) ts with
    | some (r, ts1) => if r.clean then some (r, ts1) else none
    | none => none
  | .nl, _, _ => none
  | .cn _ _, _, _ => none
  | .cs _ _, _, _ => none
  | .rng _, _, _ => none
  | .enm _, _, _ => none
  | .zp _ _, _, _ => none
  | .sq _, _, _ => none
  | .ch _, _, _ => none
  | .sm _, _, _ => none
/-- arguments -/
def evL (F : FT) : Tm → Env → Ev (List D)
  | .nl, _, ts => some ([], ts)
  | .cn a r, ρ, ts => match ev F a ρ ts with
    | some (x, ts1) => match evL F r ρ ts1 with
      | some (ds, ts2) => some (x.fz :: ds, ts2)
      | none => none
    | none => none
  | .cs a r, ρ, ts => match ev F a ρ ts with
    | some (x, ts1) => match seqD x.fz with
      | some xs => match evL F r ρ ts1 with
        | some (ds, ts2) => some (xs ++ ds, ts2)
        | none => none
      | none => none
    | none => none
  | _, _, _ => none
/-- an end of a slice -/
def evO (F : FT) : Tm → Env → Ev (Option Int)
  | .nl, _, ts => some (none, ts)
  | .sm a, ρ, ts => match ev F a ρ ts with
    | some (.p (.int i), ts1) => some (some i, ts1)
    | _ => none
  | _, _, _ => none
/-- what is gone through -/
def evI (F : FT) : Tm → Env → Ev (List D)
  | .rng a, ρ, ts => match ev F a ρ ts with
    | some (x, ts1) => (rngD x.fz).map fun xs => (xs, ts1)
    | none => none
  | .enm a, ρ, ts => match ev F a ρ ts with
    | some (x, ts1) => (seqD x.fz).map fun xs => (enmD 0 xs, ts1)
    | none => none
  | .zp a b, ρ, ts => match ev F a ρ ts with
    | some (x, ts1) => match ev F b ρ ts1 with
      | some (y, ts2) => match seqD x.fz, seqD y.fz with
        | some xs, some ys => some (zipD xs ys, ts2)
        | _, _ => none
      | none => none
    | none => none
  | .sq a, ρ, ts => match ev F a ρ ts with
    | some (x, ts1) => (seqD x.fz).map fun xs => (xs, ts1)
    | none => none
  | .ch a, ρ, ts => match ev F a ρ ts with
    | some (.p (.str x), ts1) => if x.cps.size ≤ LIM then some (x.cps.toList.map fun c => .str ⟨#[c]⟩, ts1) else none
    | _ => none
  | _, _, _ => none
end

/-! ### statements -/
inductive Out where
  | nx (ρ : Env) | rt (r : R)
/-- a loop's turns -/
def forL (f : Env → D → Ev Out) : List D → Env → Ev Out
  | [], ρ, ts => some (.nx ρ, ts)
  | x :: xs, ρ, ts => match f ρ x ts with
    | some (.nx ρ1, ts1) => forL f xs ρ1 ts1
    | o => o
def asgR (own : Bool) (r : R) : Option R :=
  if own then match r with
    | .p _ => none
    | r => some r
  else some (.p r.fz)
def stoR (r : R) (i : Int) (v : R) : Option R :=
  match r with
  | .o1 xs => (L2.ixN xs.length i).map fun j => .o1 (xs.set j v.fz)
  | .o2 xss => match v with
    | .o1 ys => (L2.ixN xss.length i).map fun j => .o2 (xss.set j ys)
    | _ => none
  | .p _ => none
def ex (F : FT) : Stm → Env → Ev Out
  | .nil, ρ, ts => some (.nx ρ, ts)
  | .seq a b, ρ, ts => match ex F a ρ ts with
    | some (.nx ρ1, ts1) => ex F b ρ1 ts1
    | o => o
  | .asg i own t, ρ, ts => match ev F t ρ ts with
    | some (r, ts1) => (asgR own r).map fun r => (.nx (setE ρ i (some r)), ts1)
    | none => none
  | .mov i j, ρ, ts => match getE ρ j with
    | some r => (asgR true r).map fun r => (.nx (setE (setE ρ j none) i (some r)), ts)
    | none => none
  | .unp is t, ρ, ts => match ev F t ρ ts with
    | some (.p (.tup ds), ts1) => (setEs ρ is ds).map fun ρ1 => (.nx ρ1, ts1)
    | _ => none
  | .par i j oi oj a b, ρ, ts => match ev F a ρ ts with
    | some (x, ts1) => match ev F b ρ ts1 with
      | some (y, ts2) => match asgR oi x, asgR oj y with
        | some u, some v => some (.nx (setE (setE ρ i (some u)) j (some v)), ts2)
        | _, _ => none
      | none => none
    | none => none
  | .tri i j k oi oj ok a b c, ρ, ts => match ev F a ρ ts with
    | some (x, ts1) => match ev F b ρ ts1 with
      | some (y, ts2) => match ev F c ρ ts2 with
        | some (z, ts3) => match asgR oi x, asgR oj y, asgR ok z with
          | some u, some v, some w => some (.nx (setE (setE (setE ρ i (some u)) j (some v)) k (some w)), ts3)
          | _, _, _ => none
        | none => none
      | none => none
    | none => none
  | .par3 i j k a b, ρ, ts => match ev F a ρ ts with
    | some (.o1 xs, ts1) => match ev F b ρ ts1 with
      | some (.p (.tup [y, z]), ts2) => some (.nx (setE (setE (setE ρ i (some (.o1 xs))) j (some (.p y))) k (some (.p z))), ts2)
      | _ => none
    | _ => none
  | .frz i, ρ, ts => match getE ρ i with
    | some r => some (.nx (setE ρ i (some (.p r.fz))), ts)
    | none => none
  | .app i t, ρ, ts => match ev F t ρ ts with
    | some (v, ts1) => match getE ρ i with
      | some (.o1 xs) => if xs.length < LIM then some (.nx (setE ρ i (some (.o1 (xs ++ [v.fz])))), ts1) else none
      | _ => none
    | none => none
  | .app2 i e t, ρ, ts => match ev F e ρ ts with
    | some (.p (.int k), ts1) => match ev F t ρ ts1 with
      | some (v, ts2) => match getE ρ i with
        | some (.o2 xss) => match L2.ixN xss.length k with
          | some j => match xss[j]? with
            | some xs => if xs.length < LIM then some (.nx (setE ρ i (some (.o2 (xss.set j (xs ++ [v.fz]))))), ts2) else none
            | none => none
          | none => none
        | _ => none
      | none => none
    | _ => none
  | .sto i e t, ρ, ts => match ev F t ρ ts with
    | some (v, ts1) => match ev F e ρ ts1 with
      | some (.p (.int k), ts2) => match getE ρ i with
        | some (.p .tin) => match v with
          | .p (.int z) => (L2.ixN ts2.length k).map fun j => (.nx ρ, ts2.set j z)
          | _ => none
        | some r => (stoR r k v).map fun r => (.nx (setE ρ i (some r)), ts2)
        | none => none
      | _ => none
    | none => none
  | .apop i j t, ρ, ts => match ev F t ρ ts with
    | some (.p (.int k), ts1) => match getE ρ i, getE ρ j with
      | some (.o1 xs), some (.o1 ys) => match L2.ixN ys.length k with
        | some m => match ys[m]? with
          | some y => if xs.length < LIM ∧ i ≠ j then some (.nx (setE (setE ρ j (some (.o1 (ys.eraseIdx m)))) i (some (.o1 (xs ++ [y])))), ts1) else none
          | none => none
        | none => none
      | _, _ => none
    | _ => none
  | .ret t, ρ, ts => match ev F t ρ ts with
    | some (r, ts1) => if r.clean then some (.rt r, ts1) else none
    | none => none
  | .retv i, ρ, ts => match getE ρ i with
    | some r => if r.clean then some (.rt r, ts) else none
    | none => none
  | .rai, _, _ => none
  | .exp t, ρ, ts => match ev F t ρ ts with
    | some (_, ts1) => some (.nx ρ, ts1)
    | none => none
  | .ife c a b, ρ, ts => match ev F c ρ ts with
    | some (.p (.bl true), ts1) => ex F a ρ ts1
    | some (.p (.bl false), ts1) => ex F b ρ ts1
    | _ => none
  | .for_ tg it body, ρ, ts => match evI F it ρ ts with
    | some (xs, ts1) => forL (fun ρ x ts => match setTg ρ tg x with
      | some ρ1 => ex F body ρ1 ts
      | none => none) xs ρ ts1
    | none => none
/-- a def: its number of names, its number of parameters, its body -/
structure Df where
  n : Nat
  m : Nat
  body : Stm
def Df.run (F : FT) (d : Df) (ds : List D) (ts : Tin) : Option (R × Tin) :=
  if ds.length = d.m then
    match ex F d.body (ds.map (fun d => some (.p d)) ++ List.replicate (d.n - d.m) none) ts with
    | some (.rt r, ts1) => some (r, ts1)
    | some (.nx _, ts1) => some (.p .non, ts1)
    | none => none
  else none
end Lt

set_option maxRecDepth 100000
namespace Lt
open PySem

/-- is_number -/
def n0 : List Str := (["thing"] : List String).map Str.ofString
def b0 : Df := ⟨1, 1, (.seq (.ret (.and_ (.isi [.int] (.var 0)) (.not_ (.isi [.bool] (.var 0))))) .nil)⟩
/-- is_name -/
def n1 : List Str := (["thing", "sign"] : List String).map Str.ofString
def b1 : Df := ⟨2, 1, (.seq (.ife (.or_ (.not_ (.isi [.str] (.var 0))) (.not_ (.chn .le .le (.int 1) (.bi .len (.cn (.var 0) .nl)) (.glb "LONGEST" 8)))) (.seq (.ret (.bl false)) .nil) .nil) (.seq (.ret (.bi .all_ (.cn (.lc [1] (.one 1) (.ch (.var 0)) (.bl true) (.cmp .in_ (.var 1) (.gls "SIGNS" "abcdefghijklmnopqrstuvwxyz")) false) .nl))) .nil))⟩
/-- tupled -/
def n2 : List Str := (["value", "own"] : List String).map Str.ofString
def b2 : Df := ⟨2, 1, (.seq (.ret (.ite (.isi [.list, .tuple] (.var 0)) (.bi .tuple (.cn (.lc [1] (.one 1) (.sq (.var 0)) (.bl true) (.fn 2 (.cn (.var 1) .nl)) false) .nl)) (.var 0))) .nil)⟩
/-- rises -/
def n3 : List Str := (["row", "k"] : List String).map Str.ofString
def b3 : Df := ⟨2, 1, (.seq (.ret (.bi .all_ (.cn (.lc [1] (.one 1) (.rng (.sub (.bi .len (.cn (.var 0) .nl)) (.int 1))) (.bl true) (.cmp .lt (.idx (.var 0) (.var 1)) (.idx (.var 0) (.add (.var 1) (.int 1)))) false) .nl))) .nil)⟩
/-- all_rows -/
def n4 : List Str := (["sizes", "found", "size", "own", "number"] : List String).map Str.ofString
def b4 : Df := ⟨5, 1, (.seq (.asg 1 true (.lst (.cn (.tup .nl) .nl))) (.seq (.for_ (.one 2) (.sq (.var 0)) (.seq (.asg 1 true (.brw (.lc2 [3, 4] 3 (.sq (.var 1)) 4 (.rng (.var 2)) (.tup (.cs (.var 3) (.cn (.var 4) .nl)))))) .nil)) (.seq (.retv 1) .nil)))⟩
/-- multiplied -/
def n5 : List Str := (["sizes", "found", "size"] : List String).map Str.ofString
def b5 : Df := ⟨3, 1, (.seq (.asg 1 false (.int 1)) (.seq (.for_ (.one 2) (.sq (.var 0)) (.seq (.asg 1 false (.mul (.var 1) (.var 2))) .nil)) (.seq (.ret (.var 1)) .nil)))⟩
/-- is_field_shape -/
def n6 : List Str := (["thing", "many", "values", "watched", "table", "own"] : List String).map Str.ofString
def b6 : Df := ⟨6, 2, (.seq (.ife (.or_ (.not_ (.isi [.tuple] (.var 0))) (.or_ (.cmp .ne (.bi .len (.cn (.var 0) .nl)) (.glb "TRIPLE" 3)) (.not_ (.bi .all_ (.cn (.lc [5] (.one 5) (.sq (.var 0)) (.bl true) (.isi [.tuple] (.var 5)) false) .nl))))) (.seq (.ret (.bl false)) .nil) .nil) (.seq (.unp [2, 3, 4] (.var 0)) (.seq (.ife (.or_ (.cmp .eq (.bi .len (.cn (.var 2) .nl)) (.int 0)) (.or_ (.not_ (.bi .all_ (.cn (.lc [5] (.one 5) (.sq (.var 2)) (.bl true) (.fn 1 (.cn (.var 5) .nl)) false) .nl))) (.cmp .ne (.lset (.var 2)) (.bi .len (.cn (.var 2) .nl))))) (.seq (.ret (.bl false)) .nil) .nil) (.seq (.ife (.or_ (.not_ (.bi .all_ (.cn (.lc [5] (.one 5) (.sq (.add (.var 3) (.var 4))) (.bl true) (.fn 0 (.cn (.var 5) .nl)) false) .nl))) (.not_ (.fn 3 (.cn (.var 3) .nl)))) (.seq (.ret (.bl false)) .nil) .nil) (.seq (.ret (.and_ (.bi .all_ (.cn (.lc [5] (.one 5) (.sq (.var 3)) (.bl true) (.chn .le .lt (.int 0) (.var 5) (.var 1)) false) .nl)) (.bi .all_ (.cn (.lc [5] (.one 5) (.sq (.var 4)) (.bl true) (.chn .le .lt (.int 0) (.var 5) (.bi .len (.cn (.var 2) .nl))) false) .nl)))) .nil)))))⟩
/-- sizes_of -/
def n7 : List Str := (["house", "places", "own"] : List String).map Str.ofString
def b7 : Df := ⟨3, 2, (.seq (.ret (.lc [2] (.one 2) (.sq (.var 1)) (.bl true) (.bi .len (.cn (.idx (.idx (.var 0) (.var 2)) (.glb "VALUES" 0)) .nl)) false)) .nil)⟩
/-- is_house -/
def n8 : List Str := (["thing", "own"] : List String).map Str.ofString
def b8 : Df := ⟨2, 1, (.seq (.ife (.or_ (.not_ (.isi [.tuple] (.var 0))) (.not_ (.bi .all_ (.cn (.lc [1] (.one 1) (.sq (.var 0)) (.bl true) (.fn 6 (.cn (.var 1) (.cn (.bi .len (.cn (.var 0) .nl)) .nl))) false) .nl)))) (.seq (.ret (.bl false)) .nil) .nil) (.seq (.ret (.bi .all_ (.cn (.lc [1] (.one 1) (.sq (.var 0)) (.bl true) (.cmp .eq (.bi .len (.cn (.idx (.var 1) (.glb "TABLE" 2)) .nl)) (.fn 5 (.cn (.fn 7 (.cn (.var 0) (.cn (.idx (.var 1) (.glb "WATCHED_houses" 1)) .nl))) .nl))) false) .nl))) .nil))⟩
/-- is_value -/
def n9 : List Str := (["house", "place", "thing"] : List String).map Str.ofString
def b9 : Df := ⟨3, 3, (.seq (.ret (.and_ (.fn 0 (.cn (.var 2) .nl)) (.chn .le .lt (.int 0) (.var 2) (.bi .len (.cn (.idx (.idx (.var 0) (.var 1)) (.glb "VALUES" 0)) .nl))))) .nil)⟩
/-- is_state -/
def n10 : List Str := (["house", "thing", "place", "own"] : List String).map Str.ofString
def b10 : Df := ⟨4, 2, (.seq (.ife (.or_ (.not_ (.isi [.tuple] (.var 1))) (.cmp .ne (.bi .len (.cn (.var 1) .nl)) (.bi .len (.cn (.var 0) .nl)))) (.seq (.ret (.bl false)) .nil) .nil) (.seq (.ret (.bi .all_ (.cn (.lc [2, 3] (.many [2, 3]) (.enm (.var 1)) (.bl true) (.fn 9 (.cn (.var 0) (.cn (.var 2) (.cn (.var 3) .nl)))) false) .nl))) .nil))⟩
/-- is_value_set -/
def n11 : List Str := (["house", "place", "thing", "own"] : List String).map Str.ofString
def b11 : Df := ⟨4, 3, (.seq (.ife (.or_ (.not_ (.isi [.tuple] (.var 2))) (.or_ (.cmp .eq (.bi .len (.cn (.var 2) .nl)) (.int 0)) (.not_ (.bi .all_ (.cn (.lc [3] (.one 3) (.sq (.var 2)) (.bl true) (.fn 9 (.cn (.var 0) (.cn (.var 1) (.cn (.var 3) .nl)))) false) .nl))))) (.seq (.ret (.bl false)) .nil) .nil) (.seq (.ret (.fn 3 (.cn (.var 2) .nl))) .nil))⟩
/-- is_box -/
def n12 : List Str := (["house", "thing", "place", "own"] : List String).map Str.ofString
def b12 : Df := ⟨4, 2, (.seq (.ife (.or_ (.not_ (.isi [.tuple] (.var 1))) (.cmp .ne (.bi .len (.cn (.var 1) .nl)) (.bi .len (.cn (.var 0) .nl)))) (.seq (.ret (.bl false)) .nil) .nil) (.seq (.ret (.bi .all_ (.cn (.lc [2, 3] (.many [2, 3]) (.enm (.var 1)) (.bl true) (.fn 11 (.cn (.var 0) (.cn (.var 2) (.cn (.var 3) .nl)))) false) .nl))) .nil))⟩
/-- is_in -/
def n13 : List Str := (["state", "box", "own", "some"] : List String).map Str.ofString
def b13 : Df := ⟨4, 2, (.seq (.ret (.bi .all_ (.cn (.lc [2, 3] (.many [2, 3]) (.zp (.var 0) (.var 1)) (.bl true) (.cmp .in_ (.var 2) (.var 3)) false) .nl))) .nil)⟩
/-- is_start -/
def n14 : List Str := (["house", "thing"] : List String).map Str.ofString
def b14 : Df := ⟨2, 2, (.seq (.ife (.or_ (.not_ (.isi [.tuple] (.var 1))) (.cmp .ne (.bi .len (.cn (.var 1) .nl)) (.glb "PAIR_houses" 2))) (.seq (.ret (.bl false)) .nil) .nil) (.seq (.ret (.and_ (.fn 10 (.cn (.var 0) (.cn (.idx (.var 1) (.int 0)) .nl))) (.and_ (.fn 12 (.cn (.var 0) (.cn (.idx (.var 1) (.int 1)) .nl))) (.fn 13 (.cn (.idx (.var 1) (.int 0)) (.cn (.idx (.var 1) (.int 1)) .nl)))))) .nil))⟩
/-- check_place -/
def n15 : List Str := (["house", "place"] : List String).map Str.ofString
def b15 : Df := ⟨2, 2, (.seq (.ife (.or_ (.not_ (.fn 0 (.cn (.var 1) .nl))) (.not_ (.chn .le .lt (.int 0) (.var 1) (.bi .len (.cn (.var 0) .nl))))) (.seq .rai .nil) .nil) .nil)⟩
/-- check_value -/
def n16 : List Str := (["house", "place", "number"] : List String).map Str.ofString
def b16 : Df := ⟨3, 3, (.seq (.ife (.not_ (.fn 9 (.cn (.var 0) (.cn (.var 1) (.cn (.var 2) .nl))))) (.seq .rai .nil) .nil) .nil)⟩
/-- table_at -/
def n17 : List Str := (["house", "place", "row", "number", "own", "size"] : List String).map Str.ofString
def b17 : Df := ⟨6, 3, (.seq (.asg 3 false (.int 0)) (.seq (.for_ (.many [4, 5]) (.zp (.var 2) (.fn 7 (.cn (.var 0) (.cn (.idx (.idx (.var 0) (.var 1)) (.glb "WATCHED_houses" 1)) .nl)))) (.seq (.asg 3 false (.add (.mul (.var 3) (.var 5)) (.var 4))) .nil)) (.seq (.ret (.idx (.idx (.idx (.var 0) (.var 1)) (.glb "TABLE" 2)) (.var 3))) .nil)))⟩
/-- rows_of -/
def n18 : List Str := (["house", "place"] : List String).map Str.ofString
def b18 : Df := ⟨2, 2, (.seq (.exp (.fn 15 (.cn (.var 0) (.cn (.var 1) .nl)))) (.seq (.ret (.fn 4 (.cn (.fn 7 (.cn (.var 0) (.cn (.idx (.idx (.var 0) (.var 1)) (.glb "WATCHED_houses" 1)) .nl))) .nl))) .nil))⟩
/-- does_matter -/
def n19 : List Str := (["house", "place", "at", "rows", "first", "row", "own"] : List String).map Str.ofString
def b19 : Df := ⟨7, 3, (.seq (.asg 3 false (.fn 18 (.cn (.var 0) (.cn (.var 1) .nl)))) (.seq (.asg 4 false (.lc [5] (.one 5) (.sq (.var 3)) (.bl true) (.tup (.cs (.slc (.var 5) .nl (.sm (.var 2))) (.cn (.int 0) (.cs (.slc (.var 5) (.sm (.add (.var 2) (.int 1))) .nl) .nl)))) false)) (.seq (.ret (.bi .any_ (.cn (.lc [5, 6] (.many [5, 6]) (.zp (.var 3) (.var 4)) (.bl true) (.cmp .ne (.fn 17 (.cn (.var 0) (.cn (.var 1) (.cn (.var 5) .nl)))) (.fn 17 (.cn (.var 0) (.cn (.var 1) (.cn (.var 6) .nl))))) false) .nl))) .nil)))⟩
/-- matters -/
def n20 : List Str := (["house", "place", "at", "own"] : List String).map Str.ofString
def b20 : Df := ⟨4, 2, (.seq (.exp (.fn 15 (.cn (.var 0) (.cn (.var 1) .nl)))) (.seq (.ret (.bi .tuple (.cn (.lc [2, 3] (.many [2, 3]) (.enm (.idx (.idx (.var 0) (.var 1)) (.glb "WATCHED_houses" 1))) (.fn 19 (.cn (.var 0) (.cn (.var 1) (.cn (.var 2) .nl)))) (.var 3) false) .nl))) .nil))⟩
/-- checked -/
def n21 : List Str := (["house", "field"] : List String).map Str.ofString
def b21 : Df := ⟨2, 1, (.seq (.ife (.or_ (.not_ (.fn 8 (.cn (.var 0) .nl))) (.cmp .gt (.bi .len (.cn (.var 0) .nl)) (.glb "MOST_FIELDS" 8))) (.seq .rai .nil) .nil) (.seq (.ife (.bi .any_ (.cn (.lc [1] (.one 1) (.sq (.var 0)) (.bl true) (.or_ (.cmp .gt (.bi .len (.cn (.idx (.var 1) (.glb "VALUES" 0)) .nl)) (.glb "MOST_VALUES" 5)) (.cmp .gt (.bi .len (.cn (.idx (.var 1) (.glb "TABLE" 2)) .nl)) (.glb "MOST_ROWS" 60))) false) .nl)) (.seq .rai .nil) .nil) (.seq (.ret (.var 0)) .nil)))⟩
/-- put_in -/
def n22 : List Str := (["house", "place", "field", "own"] : List String).map Str.ofString
def b22 : Df := ⟨4, 3, (.seq (.asg 3 false (.fn 2 (.cn (.var 0) .nl))) (.seq (.ret (.fn 21 (.cn (.tup (.cs (.slc (.var 3) .nl (.sm (.var 1))) (.cn (.fn 2 (.cn (.var 2) .nl)) (.cs (.slc (.var 3) (.sm (.add (.var 1) (.int 1))) .nl) .nl)))) .nl))) .nil))⟩
/-- told_anew -/
def n23 : List Str := (["house", "place", "watched", "fixed", "found", "row", "seen", "own"] : List String).map Str.ofString
def b23 : Df := ⟨8, 4, (.seq (.asg 4 true (.lst .nl)) (.seq (.for_ (.one 5) (.sq (.fn 4 (.cn (.fn 7 (.cn (.var 0) (.cn (.var 2) .nl))) .nl))) (.seq (.asg 6 false (.dmg 3 2 5)) (.seq (.app 4 (.fn 17 (.cn (.var 0) (.cn (.var 1) (.cn (.lc [7] (.one 7) (.sq (.idx (.idx (.var 0) (.var 1)) (.glb "WATCHED_houses" 1))) (.bl true) (.idx (.var 6) (.var 7)) false) .nl))))) .nil))) (.seq (.ret (.brw (.tup (.cn (.bi .tuple (.cn (.idx (.idx (.var 0) (.var 1)) (.glb "VALUES" 0)) .nl)) (.cn (.bi .tuple (.cn (.var 2) .nl)) (.cn (.bi .tuple (.cn (.var 4) .nl)) .nl)))))) .nil)))⟩
/-- lean -/
def n24 : List Str := (["house", "own", "zeros", "place"] : List String).map Str.ofString
def b24 : Df := ⟨4, 1, (.seq (.asg 1 false (.fn 2 (.cn (.var 0) .nl))) (.seq (.asg 2 false (.dc [3] (.one 3) (.rng (.bi .len (.cn (.var 1) .nl))) (.var 3) (.int 0))) (.seq (.ret (.bi .tuple (.cn (.lc [3] (.one 3) (.rng (.bi .len (.cn (.var 1) .nl))) (.bl true) (.fn 23 (.cn (.var 1) (.cn (.var 3) (.cn (.fn 20 (.cn (.var 1) (.cn (.var 3) .nl))) (.cn (.var 2) .nl))))) false) .nl))) .nil)))⟩
/-- beside -/
def n25 : List Str := (["house", "other", "many", "late", "values", "watched", "table", "own"] : List String).map Str.ofString
def b25 : Df := ⟨8, 2, (.seq (.asg 2 false (.bi .len (.cn (.var 0) .nl))) (.seq (.asg 3 false (.lc [4, 5, 6] (.many [4, 5, 6]) (.sq (.var 1)) (.bl true) (.tup (.cn (.var 4) (.cn (.lc [7] (.one 7) (.sq (.var 5)) (.bl true) (.add (.var 7) (.var 2)) false) (.cn (.var 6) .nl)))) false)) (.seq (.ret (.fn 21 (.cn (.tup (.cs (.fn 2 (.cn (.var 0) .nl)) (.cs (.fn 2 (.cn (.var 3) .nl)) .nl))) .nl))) .nil)))⟩
/-- renamed -/
def n26 : List Str := (["house", "place", "number", "name", "values"] : List String).map Str.ofString
def b26 : Df := ⟨5, 4, (.seq (.exp (.fn 15 (.cn (.var 0) (.cn (.var 1) .nl)))) (.seq (.exp (.fn 16 (.cn (.var 0) (.cn (.var 1) (.cn (.var 2) .nl))))) (.seq (.asg 4 false (.idx (.idx (.var 0) (.var 1)) (.glb "VALUES" 0))) (.seq (.ret (.fn 22 (.cn (.var 0) (.cn (.var 1) (.cn (.tup (.cn (.tup (.cs (.slc (.var 4) .nl (.sm (.var 2))) (.cn (.var 3) (.cs (.slc (.var 4) (.sm (.add (.var 2) (.int 1))) .nl) .nl)))) (.cs (.slc (.idx (.var 0) (.var 1)) (.sm (.glb "WATCHED_houses" 1)) .nl) .nl))) .nl))))) .nil))))⟩
/-- first_versions -/
def n27 : List Str := (["house", "start", "state", "old", "place", "value"] : List String).map Str.ofString
def b27 : Df := ⟨6, 2, (.seq (.unp [2, 3] (.var 1)) (.seq (.ret (.lc [4] (.one 4) (.rng (.bi .len (.cn (.var 0) .nl))) (.bl true) (.add (.lc [5] (.one 5) (.sq (.idx (.var 3) (.var 4))) (.cmp .ne (.var 5) (.idx (.var 2) (.var 4))) (.var 5) false) (.lst (.cn (.idx (.var 2) (.var 4)) .nl))) true)) .nil))⟩
/-- value_by -/
def n28 : List Str := (["house", "rows", "place", "sights", "near", "number"] : List String).map Str.ofString
def b28 : Df := ⟨6, 4, (.seq (.ret (.fn 17 (.cn (.var 0) (.cn (.var 2) (.cn (.lc [4, 5] (.many [4, 5]) (.zp (.idx (.idx (.var 0) (.var 2)) (.glb "WATCHED_runs" 1)) (.var 3)) (.bl true) (.idx (.idx (.var 1) (.var 4)) (.var 5)) false) .nl))))) .nil)⟩
/-- versions_in -/
def n29 : List Str := (["house", "run", "rows", "place", "sights"] : List String).map Str.ofString
def b29 : Df := ⟨5, 2, (.seq (.asg 2 true (.fn 27 (.cn (.var 0) (.cn (.idx (.var 1) (.int 0)) .nl)))) (.seq (.for_ (.many [3, 4]) (.sq (.idx (.var 1) (.int 1))) (.seq (.app2 2 (.var 3) (.brw (.fn 28 (.cn (.var 0) (.cn (.var 2) (.cn (.var 3) (.cn (.var 4) .nl))))))) .nil)) (.seq (.retv 2) .nil)))⟩
/-- versions -/
def n30 : List Str := (["house", "run", "place"] : List String).map Str.ofString
def b30 : Df := ⟨3, 3, (.seq (.exp (.fn 15 (.cn (.var 0) (.cn (.var 2) .nl)))) (.seq (.ret (.bi .tuple (.cn (.idx (.fn 29 (.cn (.var 0) (.cn (.var 1) .nl))) (.var 2)) .nl))) .nil))⟩
/-- writes -/
def n31 : List Str := (["house", "run", "rows", "found", "place", "sights"] : List String).map Str.ofString
def b31 : Df := ⟨6, 2, (.seq (.par 2 3 true true (.fn 27 (.cn (.var 0) (.cn (.idx (.var 1) (.int 0)) .nl))) (.lst .nl)) (.seq (.for_ (.many [4, 5]) (.sq (.idx (.var 1) (.int 1))) (.seq (.app 3 (.brw (.fn 28 (.cn (.var 0) (.cn (.var 2) (.cn (.var 4) (.cn (.var 5) .nl))))))) (.seq (.app2 2 (.var 4) (.brw (.idx (.var 3) (.neg (.int 1))))) .nil))) (.seq (.ret (.brw (.bi .tuple (.cn (.var 3) .nl)))) .nil)))⟩
/-- states_along -/
def n32 : List Str := (["house", "run", "found", "move", "value", "later", "state"] : List String).map Str.ofString
def b32 : Df := ⟨7, 2, (.seq (.asg 2 true (.lst (.cn (.bi .list (.cn (.idx (.idx (.var 1) (.int 0)) (.int 0)) .nl)) .nl))) (.seq (.for_ (.many [3, 4]) (.zp (.idx (.var 1) (.int 1)) (.fn 31 (.cn (.var 0) (.cn (.var 1) .nl)))) (.seq (.asg 5 true (.brw (.bi .list (.cn (.idx (.var 2) (.neg (.int 1))) .nl)))) (.seq (.sto 5 (.idx (.var 3) (.int 0)) (.var 4)) (.seq (.frz 5) (.seq (.app 2 (.var 5)) .nil))))) (.seq (.ret (.brw (.lc [6] (.one 6) (.sq (.var 2)) (.bl true) (.bi .tuple (.cn (.var 6) .nl)) false))) .nil)))⟩
/-- state_behind -/
def n33 : List Str := (["house", "run"] : List String).map Str.ofString
def b33 : Df := ⟨2, 2, (.seq (.ret (.idx (.fn 32 (.cn (.var 0) (.cn (.var 1) .nl))) (.neg (.int 1)))) .nil)⟩
/-- counts_at -/
def n34 : List Str := (["house", "run", "number", "many", "place", "sights", "row"] : List String).map Str.ofString
def b34 : Df := ⟨7, 3, (.seq (.asg 3 true (.lc [6] (.one 6) (.sq (.fn 27 (.cn (.var 0) (.cn (.idx (.var 1) (.int 0)) .nl)))) (.bl true) (.bi .len (.cn (.var 6) .nl)) false)) (.seq (.for_ (.many [4, 5]) (.sq (.slc (.idx (.var 1) (.int 1)) .nl (.sm (.var 2)))) (.seq (.sto 3 (.var 4) (.brw (.add (.idx (.var 3) (.var 4)) (.int 1)))) .nil)) (.seq (.retv 3) .nil)))⟩
/-- all_strides -/
def n35 : List Str := (["house", "run", "many", "found", "place", "sights", "backs", "near", "number"] : List String).map Str.ofString
def b35 : Df := ⟨9, 2, (.seq (.par 2 3 true true (.fn 34 (.cn (.var 0) (.cn (.var 1) (.cn (.int 0) .nl)))) (.lst .nl)) (.seq (.for_ (.many [4, 5]) (.sq (.idx (.var 1) (.int 1))) (.seq (.asg 6 false (.brw (.lc [7, 8] (.many [7, 8]) (.zp (.idx (.idx (.var 0) (.var 4)) (.glb "WATCHED_runs" 1)) (.var 5)) (.bl true) (.sub (.sub (.idx (.var 2) (.var 7)) (.int 1)) (.var 8)) false))) (.seq (.app 3 (.tup (.cn (.var 4) (.cn (.bi .tuple (.cn (.var 6) .nl)) .nl)))) (.seq (.sto 2 (.var 4) (.brw (.add (.idx (.var 2) (.var 4)) (.int 1)))) .nil)))) (.seq (.retv 3) .nil)))⟩
/-- strides -/
def n36 : List Str := (["house", "run"] : List String).map Str.ofString
def b36 : Df := ⟨2, 2, (.seq (.ret (.bi .tuple (.cn (.fn 35 (.cn (.var 0) (.cn (.var 1) .nl))) .nl))) .nil)⟩
/-- newest_by -/
def n37 : List Str := (["house", "many", "place", "near"] : List String).map Str.ofString
def b37 : Df := ⟨4, 3, (.seq (.ret (.bi .tuple (.cn (.lc [3] (.one 3) (.sq (.idx (.idx (.var 0) (.var 2)) (.glb "WATCHED_runs" 1))) (.bl true) (.sub (.idx (.var 1) (.var 3)) (.int 1)) false) .nl))) .nil)⟩
/-- newest -/
def n38 : List Str := (["house", "run", "place"] : List String).map Str.ofString
def b38 : Df := ⟨3, 3, (.seq (.exp (.fn 15 (.cn (.var 0) (.cn (.var 2) .nl)))) (.seq (.ret (.fn 37 (.cn (.var 0) (.cn (.fn 34 (.cn (.var 0) (.cn (.var 1) (.cn (.bi .len (.cn (.idx (.var 1) (.int 1)) .nl)) .nl)))) (.cn (.var 2) .nl))))) .nil))⟩
/-- with_move -/
def n39 : List Str := (["run", "place", "sights", "start", "moves"] : List String).map Str.ofString
def b39 : Df := ⟨5, 3, (.seq (.unp [3, 4] (.fn 2 (.cn (.var 0) .nl))) (.seq (.ret (.tup (.cn (.var 3) (.cn (.tup (.cs (.var 4) (.cn (.tup (.cn (.var 1) (.cn (.bi .tuple (.cn (.var 2) .nl)) .nl))) .nl))) .nl)))) .nil))⟩
/-- sights_back -/
def n40 : List Str := (["house", "many", "place", "backs", "found", "near", "back", "number"] : List String).map Str.ofString
def b40 : Df := ⟨8, 4, (.seq (.asg 4 false (.lc [5, 6] (.many [5, 6]) (.zp (.idx (.idx (.var 0) (.var 2)) (.glb "WATCHED_runs" 1)) (.var 3)) (.bl true) (.sub (.sub (.idx (.var 1) (.var 5)) (.int 1)) (.var 6)) false)) (.seq (.ret (.ite (.bi .any_ (.cn (.lc [7] (.one 7) (.sq (.var 4)) (.bl true) (.cmp .lt (.var 7) (.int 0)) false) .nl)) .non (.bi .tuple (.cn (.var 4) .nl)))) .nil))⟩
/-- gone -/
def n41 : List Str := (["house", "run", "circuit", "found", "many", "place", "backs", "start", "moves"] : List String).map Str.ofString
def b41 : Df := ⟨9, 3, (.seq (.par3 4 7 8 (.fn 34 (.cn (.var 0) (.cn (.var 1) (.cn (.bi .len (.cn (.idx (.var 1) (.int 1)) .nl)) .nl)))) (.fn 2 (.cn (.var 1) .nl))) (.seq (.ife (.not_ (.fn 44 (.cn (.var 0) (.cn (.var 1) (.cn (.fn 2 (.cn (.var 2) .nl)) .nl))))) (.seq .rai .nil) .nil) (.seq (.asg 3 true (.bi .list (.cn (.var 8) .nl))) (.seq (.for_ (.many [5, 6]) (.sq (.var 2)) (.seq (.app 3 (.brw (.tup (.cn (.var 5) (.cn (.fn 40 (.cn (.var 0) (.cn (.var 4) (.cn (.var 5) (.cn (.var 6) .nl))))) .nl))))) (.seq (.sto 4 (.var 5) (.brw (.add (.idx (.var 4) (.var 5)) (.int 1)))) .nil))) (.seq (.ret (.brw (.tup (.cn (.var 7) (.cn (.bi .tuple (.cn (.var 3) .nl)) .nl))))) .nil)))))⟩
/-- has_form -/
def n42 : List Str := (["house", "thing", "own"] : List String).map Str.ofString
def b42 : Df := ⟨3, 2, (.seq (.ife (.or_ (.not_ (.isi [.tuple] (.var 1))) (.or_ (.cmp .ne (.bi .len (.cn (.var 1) .nl)) (.glb "PAIR_runs" 2)) (.not_ (.fn 0 (.cn (.idx (.var 1) (.int 0)) .nl))))) (.seq (.ret (.bl false)) .nil) .nil) (.seq (.ife (.or_ (.not_ (.chn .le .lt (.int 0) (.idx (.var 1) (.int 0)) (.bi .len (.cn (.var 0) .nl)))) (.not_ (.isi [.tuple] (.idx (.var 1) (.int 1))))) (.seq (.ret (.bl false)) .nil) .nil) (.seq (.ret (.and_ (.cmp .eq (.bi .len (.cn (.idx (.var 1) (.int 1)) .nl)) (.bi .len (.cn (.idx (.idx (.var 0) (.idx (.var 1) (.int 0))) (.glb "WATCHED_runs" 1)) .nl))) (.bi .all_ (.cn (.lc [2] (.one 2) (.sq (.idx (.var 1) (.int 1))) (.bl true) (.fn 0 (.cn (.var 2) .nl)) false) .nl)))) .nil)))⟩
/-- is_run -/
def n43 : List Str := (["house", "thing", "many", "place", "sights", "move", "near", "number"] : List String).map Str.ofString
def b43 : Df := ⟨8, 2, (.seq (.ife (.or_ (.not_ (.isi [.tuple] (.var 1))) (.or_ (.cmp .ne (.bi .len (.cn (.var 1) .nl)) (.glb "PAIR_runs" 2)) (.not_ (.fn 14 (.cn (.var 0) (.cn (.idx (.var 1) (.int 0)) .nl)))))) (.seq (.ret (.bl false)) .nil) .nil) (.seq (.ife (.or_ (.not_ (.isi [.tuple] (.idx (.var 1) (.int 1)))) (.not_ (.bi .all_ (.cn (.lc [5] (.one 5) (.sq (.idx (.var 1) (.int 1))) (.bl true) (.fn 42 (.cn (.var 0) (.cn (.var 5) .nl))) false) .nl)))) (.seq (.ret (.bl false)) .nil) .nil) (.seq (.asg 2 true (.fn 34 (.cn (.var 0) (.cn (.tup (.cn (.idx (.var 1) (.int 0)) (.cn (.tup .nl) .nl))) (.cn (.int 0) .nl))))) (.seq (.for_ (.many [3, 4]) (.sq (.idx (.var 1) (.int 1))) (.seq (.ife (.brw (.not_ (.bi .all_ (.cn (.lc [6, 7] (.many [6, 7]) (.zp (.idx (.idx (.var 0) (.var 3)) (.glb "WATCHED_runs" 1)) (.var 4)) (.bl true) (.chn .le .lt (.int 0) (.var 7) (.idx (.var 2) (.var 6))) false) .nl)))) (.seq (.ret (.bl false)) .nil) .nil) (.seq (.sto 2 (.var 3) (.brw (.add (.idx (.var 2) (.var 3)) (.int 1)))) .nil))) (.seq (.ret (.bl true)) .nil)))))⟩
/-- is_circuit -/
def n44 : List Str := (["house", "run", "thing", "many", "place", "backs", "stride", "back"] : List String).map Str.ofString
def b44 : Df := ⟨8, 3, (.seq (.ife (.or_ (.not_ (.isi [.tuple] (.var 2))) (.not_ (.bi .all_ (.cn (.lc [6] (.one 6) (.sq (.var 2)) (.bl true) (.fn 42 (.cn (.var 0) (.cn (.var 6) .nl))) false) .nl)))) (.seq (.ret (.bl false)) .nil) .nil) (.seq (.asg 3 true (.fn 34 (.cn (.var 0) (.cn (.var 1) (.cn (.bi .len (.cn (.idx (.var 1) (.int 1)) .nl)) .nl))))) (.seq (.for_ (.many [4, 5]) (.sq (.var 2)) (.seq (.ife (.brw (.or_ (.bi .any_ (.cn (.lc [7] (.one 7) (.sq (.var 5)) (.bl true) (.cmp .lt (.var 7) (.int 0)) false) .nl)) (.cmp .is_ (.fn 40 (.cn (.var 0) (.cn (.var 3) (.cn (.var 4) (.cn (.var 5) .nl))))) .non))) (.seq (.ret (.bl false)) .nil) .nil) (.seq (.sto 3 (.var 4) (.brw (.add (.idx (.var 3) (.var 4)) (.int 1)))) .nil))) (.seq (.ret (.bl true)) .nil))))⟩
/-- depths -/
def n45 : List Str := (["house", "circuit", "found", "place", "backs", "near", "back", "field"] : List String).map Str.ofString
def b45 : Df := ⟨8, 2, (.seq (.asg 2 true (.lc [7] (.one 7) (.sq (.var 0)) (.bl true) (.int 1) false)) (.seq (.for_ (.many [3, 4]) (.sq (.var 1)) (.seq (.for_ (.many [5, 6]) (.zp (.idx (.idx (.var 0) (.var 3)) (.glb "WATCHED_runs" 1)) (.var 4)) (.seq (.sto 2 (.var 5) (.brw (.bi .max2 (.cn (.idx (.var 2) (.var 5)) (.cn (.add (.var 6) (.int 1)) .nl))))) .nil)) .nil)) (.seq (.retv 2) .nil)))⟩
/-- is_lap -/
def n46 : List Str := (["house", "thing", "run", "circuit", "ahead", "behind", "near", "depth", "place", "backs"] : List String).map Str.ofString
def b46 : Df := ⟨10, 2, (.seq (.ife (.or_ (.not_ (.isi [.tuple] (.var 1))) (.or_ (.cmp .ne (.bi .len (.cn (.var 1) .nl)) (.glb "PAIR_runs" 2)) (.not_ (.fn 43 (.cn (.var 0) (.cn (.idx (.var 1) (.int 0)) .nl)))))) (.seq (.ret (.bl false)) .nil) .nil) (.seq (.unp [2, 3] (.var 1)) (.seq (.ife (.or_ (.not_ (.fn 44 (.cn (.var 0) (.cn (.var 2) (.cn (.var 3) .nl))))) (.cmp .lt (.bi .len (.cn (.dc [8, 9] (.many [8, 9]) (.sq (.var 3)) (.var 8) (.var 9)) .nl)) (.bi .len (.cn (.var 0) .nl)))) (.seq (.ret (.bl false)) .nil) .nil) (.seq (.par 4 5 false false (.fn 29 (.cn (.var 0) (.cn (.var 2) .nl))) (.fn 29 (.cn (.var 0) (.cn (.fn 41 (.cn (.var 0) (.cn (.var 2) (.cn (.var 3) .nl)))) .nl)))) (.seq (.for_ (.many [6, 7]) (.enm (.fn 45 (.cn (.var 0) (.cn (.var 3) .nl)))) (.seq (.ife (.or_ (.cmp .lt (.bi .len (.cn (.idx (.var 4) (.var 6)) .nl)) (.var 7)) (.cmp .ne (.slc (.idx (.var 4) (.var 6)) (.sm (.neg (.var 7))) .nl) (.slc (.idx (.var 5) (.var 6)) (.sm (.neg (.var 7))) .nl))) (.seq (.ret (.bl false)) .nil) .nil) .nil)) (.seq (.ret (.bl true)) .nil))))))⟩
/-- circuit_states -/
def n47 : List Str := (["house", "ring", "run", "circuit"] : List String).map Str.ofString
def b47 : Df := ⟨4, 2, (.seq (.unp [2, 3] (.var 1)) (.seq (.ret (.slc (.fn 32 (.cn (.var 0) (.cn (.fn 41 (.cn (.var 0) (.cn (.var 2) (.cn (.var 3) .nl)))) .nl))) (.sm (.bi .len (.cn (.idx (.var 2) (.int 1)) .nl))) .nl)) .nil))⟩
/-- swings -/
def n48 : List Str := (["house", "ring", "rows", "state"] : List String).map Str.ofString
def b48 : Df := ⟨4, 2, (.seq (.asg 2 false (.fn 47 (.cn (.var 0) (.cn (.var 1) .nl)))) (.seq (.ret (.bi .any_ (.cn (.lc [3] (.one 3) (.sq (.var 2)) (.bl true) (.cmp .ne (.var 3) (.idx (.var 2) (.int 0))) false) .nl))) .nil))⟩
/-- cut_run -/
def n49 : List Str := (["house", "run", "numbers", "many", "found", "rows", "place", "sights", "value", "seen", "row", "near", "number"] : List String).map Str.ofString
def b49 : Df := ⟨13, 2, (.seq (.par 4 5 false true (.tup (.cn (.fn 2 (.cn (.idx (.var 1) (.int 0)) .nl)) (.cn (.tup .nl) .nl))) (.fn 27 (.cn (.var 0) (.cn (.idx (.var 1) (.int 0)) .nl)))) (.seq (.asg 2 true (.brw (.lc [10] (.one 10) (.sq (.var 5)) (.bl true) (.lrng (.bi .len (.cn (.var 10) .nl))) true))) (.seq (.asg 3 true (.brw (.lc [10] (.one 10) (.sq (.var 5)) (.bl true) (.bi .len (.cn (.var 10) .nl)) false))) (.seq (.for_ (.many [6, 7]) (.sq (.idx (.var 1) (.int 1))) (.seq (.asg 8 false (.brw (.fn 28 (.cn (.var 0) (.cn (.var 5) (.cn (.var 6) (.cn (.var 7) .nl))))))) (.seq (.ife (.brw (.cmp .eq (.var 8) (.idx (.idx (.var 5) (.var 6)) (.neg (.int 1))))) (.seq (.app2 2 (.var 6) (.brw (.idx (.idx (.var 2) (.var 6)) (.neg (.int 1))))) .nil) (.seq (.asg 9 false (.brw (.lc [11, 12] (.many [11, 12]) (.zp (.idx (.idx (.var 0) (.var 6)) (.glb "WATCHED_runs" 1)) (.var 7)) (.bl true) (.idx (.idx (.var 2) (.var 11)) (.var 12)) false))) (.seq (.asg 4 false (.fn 39 (.cn (.var 4) (.cn (.var 6) (.cn (.var 9) .nl))))) (.seq (.app2 2 (.var 6) (.brw (.idx (.var 3) (.var 6)))) (.seq (.sto 3 (.var 6) (.brw (.add (.idx (.var 3) (.var 6)) (.int 1)))) .nil))))) (.seq (.app2 5 (.var 6) (.var 8)) .nil)))) (.seq (.ret (.var 4)) .nil)))))⟩
/-- _law_box -/
def n50 : List Str := (["_law_script", "_law_k", "_law_cell"] : List String).map Str.ofString
def b50 : Df := ⟨3, 2, (.seq (.asg 2 false (.ite (.cmp .lt (.var 1) (.bi .len (.cn (.var 0) .nl))) (.idx (.var 0) (.var 1)) (.int 0))) (.seq (.ret (.lst (.cn (.mul (.bi .abs (.cn (.var 2) .nl)) (.bi .int (.cn (.cmp .ge (.bi .abs (.cn (.var 2) .nl)) (.pow (.int 10) (.int 18))) .nl))) (.cn (.add (.add (.mod (.bi .int (.cn (.var 2) .nl)) (.int 2305843009213693951)) (.mul (.int 39373) (.var 1))) (.int 1938054)) (.cn (.int 0) .nl))))) .nil))⟩
/-- _law_take -/
def n51 : List Str := (["_law_tin", "_law_below_so", "_law_once_so", "_law_wide_so", "_law_twice_so", "_law_drawn"] : List String).map Str.ofString
def b51 : Df := ⟨6, 2, (.seq (.ife (.cmp .gt (.idx (.var 0) (.int 0)) (.int 0)) (.seq (.asg 5 false (.mod (.bi .int (.cn (.idx (.var 0) (.int 0)) .nl)) (.var 1))) (.seq (.sto 0 (.int 0) (.fdiv (.idx (.var 0) (.int 0)) (.var 1))) (.seq (.ret (.var 5)) .nil))) .nil) (.seq (.sto 0 (.int 2) (.add (.idx (.var 0) (.int 2)) (.int 1))) (.seq (.asg 2 false (.mod (.bi .int (.cn (.mul (.add (.idx (.var 0) (.int 1)) (.mul (.int 48271) (.idx (.var 0) (.int 2)))) (.add (.int 39373) (.idx (.var 0) (.int 2)))) .nl)) (.int 2147483647))) (.seq (.asg 3 false (.add (.mod (.bi .int (.cn (.var 2) .nl)) (.int 40009)) (.int 7))) (.seq (.asg 4 false (.mod (.bi .int (.cn (.mul (.add (.add (.var 2) (.idx (.var 0) (.int 2))) (.fdiv (.idx (.var 0) (.int 1)) (.int 1000003))) (.var 3)) .nl)) (.int 2147483629))) (.seq (.ret (.mod (.bi .int (.cn (.fdiv (.mod (.bi .int (.cn (.add (.mul (.var 4) (.int 48271)) (.var 2)) .nl)) (.int 2147483587)) (.int 64)) .nl)) (.var 1))) .nil))))))⟩
/-- _law_cells -/
def n52 : List Str := (["_law_script", "_law_most_so", "_law_cells_so", "_law_k", "_law_cell", "_law_at_so"] : List String).map Str.ofString
def b52 : Df := ⟨6, 2, (.seq (.asg 2 true (.orl (.bi .list (.cn (.slc (.var 0) .nl (.sm (.var 1))) .nl)) (.lst (.cn (.int 0) .nl)))) (.seq (.for_ (.many [3, 4]) (.enm (.slc (.var 0) (.sm (.var 1)) (.sm (.int 63)))) (.seq (.asg 5 false (.mod (.bi .int (.cn (.var 3) .nl)) (.var 1))) (.seq (.sto 2 (.var 5) (.brw (.add (.idx (.var 2) (.var 5)) (.mul (.var 4) (.add (.var 3) (.int 2)))))) .nil))) (.seq (.retv 2) .nil)))⟩
/-- _law_of -/
def n53 : List Str := (["_law_tin", "_law_goods_so"] : List String).map Str.ofString
def b53 : Df := ⟨2, 2, (.seq (.ret (.idx (.var 1) (.fn 51 (.cn (.var 0) (.cn (.bi .len (.cn (.var 1) .nl)) .nl))))) .nil)⟩
/-- _law_pick -/
def n54 : List Str := (["_law_tin", "_law_goods_so", "_law_count_so", "_law_lap", "_law_pool_so", "_law_found"] : List String).map Str.ofString
def b54 : Df := ⟨6, 3, (.seq (.par 4 5 true true (.bi .list (.cn (.var 1) .nl)) (.lst .nl)) (.seq (.for_ (.one 3) (.rng (.brw (.bi .min2 (.cn (.bi .int (.cn (.var 2) .nl)) (.cn (.bi .len (.cn (.var 4) .nl)) .nl))))) (.seq (.apop 5 4 (.brw (.fn 51 (.cn (.var 0) (.cn (.bi .len (.cn (.var 4) .nl)) .nl))))) .nil)) (.seq (.retv 5) .nil)))⟩
/-- _law_same -/
def n55 : List Str := (["_law_got", "_law_due", "_law_mine", "_law_its"] : List String).map Str.ofString
def b55 : Df := ⟨4, 2, (.seq (.ife (.isi [.list, .tuple] (.var 1)) (.seq (.ife (.or_ (.cmp .ne (.isi [.list] (.var 0)) (.isi [.list] (.var 1))) (.cmp .ne (.isi [.tuple] (.var 0)) (.isi [.tuple] (.var 1)))) (.seq (.ret (.bl false)) .nil) .nil) (.seq (.ret (.and_ (.cmp .eq (.bi .len (.cn (.var 0) .nl)) (.bi .len (.cn (.var 1) .nl))) (.bi .all_ (.cn (.lc [2, 3] (.many [2, 3]) (.zp (.var 0) (.var 1)) (.bl true) (.fn 55 (.cn (.var 2) (.cn (.var 3) .nl))) false) .nl)))) .nil)) .nil) (.seq (.ife (.or_ (.cmp .is_ (.var 1) .non) (.isi [.bool, .str] (.var 1))) (.seq (.ret (.and_ (.cmp .eq (.var 0) (.var 1)) (.and_ (.cmp .eq (.isi [.bool] (.var 0)) (.isi [.bool] (.var 1))) (.cmp .eq (.cmp .is_ (.var 0) .non) (.cmp .is_ (.var 1) .non))))) .nil) .nil) (.seq (.ret (.and_ (.isi [.int] (.var 0)) (.and_ (.not_ (.isi [.bool] (.var 0))) (.cmp .eq (.var 0) (.var 1))))) .nil)))⟩
/-- _law_rows -/
def n56 : List Str := (["_law_sizes_so", "_law_found", "_law_size_so", "_law_longer", "_law_own", "_law_k"] : List String).map Str.ofString
def b56 : Df := ⟨6, 1, (.seq (.asg 1 true (.lst (.cn (.tup .nl) .nl))) (.seq (.for_ (.one 2) (.sq (.var 0)) (.seq (.asg 3 true (.lst .nl)) (.seq (.frz 1) (.seq (.for_ (.one 4) (.sq (.var 1)) (.seq (.asg 3 true (.brw (.add (.var 3) (.lc [5] (.one 5) (.rng (.var 2)) (.bl true) (.add (.var 4) (.tup (.cn (.var 5) .nl))) false)))) .nil)) (.seq (.mov 1 3) .nil))))) (.seq (.retv 1) .nil)))⟩
/-- _law_sizes -/
def n57 : List Str := (["_law_hall_here", "_law_spots_so", "_law_j"] : List String).map Str.ofString
def b57 : Df := ⟨3, 2, (.seq (.ret (.lc [2] (.one 2) (.sq (.var 1)) (.bl true) (.bi .len (.cn (.idx (.idx (.var 0) (.var 2)) (.int 0)) .nl)) false)) .nil)⟩
/-- _law_told -/
def n58 : List Str := (["_law_hall_here", "_law_j", "_law_row_so"] : List String).map Str.ofString
def b58 : Df := ⟨3, 3, (.seq (.ret (.idx (.idx (.idx (.var 0) (.var 1)) (.int 2)) (.mix (.fn 56 (.cn (.fn 57 (.cn (.var 0) (.cn (.idx (.idx (.var 0) (.var 1)) (.int 1)) .nl))) .nl)) (.bi .tuple (.cn (.var 2) .nl))))) .nil)⟩
/-- _law_hall -/
def n59 : List Str := (["_law_tin", "_law_many_so", "_law_most_so", "_law_j", "_law_sizes_so", "_law_found", "_law_eyes_so", "_law_size_so", "_law_nigh_so", "_law_told_so", "_law_lap"] : List String).map Str.ofString
def b59 : Df := ⟨11, 3, (.seq (.par 4 5 false true (.lc [3] (.one 3) (.rng (.var 1)) (.bl true) (.fn 53 (.cn (.var 0) (.cn (.slc (.lst (.cn (.int 1) (.cn (.int 2) (.cn (.int 2) (.cn (.int 2) (.cn (.int 3) (.cn (.int 3) .nl))))))) .nl (.sm (.mul (.var 2) (.int 2)))) .nl))) false) (.lst .nl)) (.seq (.for_ (.one 3) (.rng (.var 1)) (.seq (.asg 6 false (.bi .tuple (.cn (.bi .sorted (.cn (.fn 54 (.cn (.var 0) (.cn (.lrng (.var 1)) (.cn (.fn 53 (.cn (.var 0) (.cn (.lst (.cn (.int 0) (.cn (.int 1) (.cn (.int 1) (.cn (.int 2) (.cn (.int 2) (.cn (.int 2) .nl))))))) .nl))) .nl)))) .nl)) .nl))) (.seq (.asg 7 false (.int 1)) (.seq (.for_ (.one 8) (.sq (.var 6)) (.seq (.asg 7 false (.mul (.var 7) (.idx (.var 4) (.var 8)))) .nil)) (.seq (.asg 9 false (.bi .tuple (.cn (.lc [10] (.one 10) (.rng (.var 7)) (.bl true) (.fn 51 (.cn (.var 0) (.cn (.idx (.var 4) (.var 3)) .nl))) false) .nl))) (.seq (.app 5 (.tup (.cn (.slc (.tup (.cn (.str "no") (.cn (.str "yes") (.cn (.str "zeal") .nl)))) .nl (.sm (.idx (.var 4) (.var 3)))) (.cn (.var 6) (.cn (.var 9) .nl))))) .nil)))))) (.seq (.ret (.brw (.bi .tuple (.cn (.var 5) .nl)))) .nil)))⟩
/-- _law_spot -/
def n60 : List Str := (["_law_tin", "_law_hall_here", "_law_own"] : List String).map Str.ofString
def b60 : Df := ⟨3, 2, (.seq (.ret (.bi .tuple (.cn (.lc [2] (.one 2) (.sq (.var 1)) (.bl true) (.fn 51 (.cn (.var 0) (.cn (.bi .len (.cn (.idx (.var 2) (.int 0)) .nl)) .nl))) false) .nl))) .nil)⟩
/-- _law_start -/
def n61 : List Str := (["_law_tin", "_law_hall_here", "_law_here", "_law_old_so", "_law_j", "_law_own", "_law_more_so", "_law_k"] : List String).map Str.ofString
def b61 : Df := ⟨8, 2, (.seq (.par 2 3 false true (.fn 60 (.cn (.var 0) (.cn (.var 1) .nl))) (.lst .nl)) (.seq (.for_ (.many [4, 5]) (.enm (.var 2)) (.seq (.asg 6 false (.lc [7] (.one 7) (.rng (.bi .len (.cn (.idx (.idx (.var 1) (.var 4)) (.int 0)) .nl))) (.or_ (.cmp .eq (.var 7) (.var 5)) (.cmp .eq (.fn 51 (.cn (.var 0) (.cn (.int 4) .nl))) (.int 0))) (.var 7) false)) (.seq (.app 3 (.bi .tuple (.cn (.var 6) .nl))) .nil))) (.seq (.ret (.brw (.tup (.cn (.var 2) (.cn (.bi .tuple (.cn (.var 3) .nl)) .nl))))) .nil)))⟩
/-- _law_versions -/
def n62 : List Str := (["_law_start_so", "_law_now_so", "_law_own", "_law_k"] : List String).map Str.ofString
def b62 : Df := ⟨4, 1, (.seq (.ret (.lc [1, 2] (.many [1, 2]) (.zp (.idx (.var 0) (.int 0)) (.idx (.var 0) (.int 1))) (.bl true) (.add (.lc [3] (.one 3) (.sq (.var 2)) (.cmp .ne (.var 3) (.var 1)) (.var 3) false) (.lst (.cn (.var 1) .nl))) true)) .nil)⟩
/-- _law_played -/
def n63 : List Str := (["_law_hall_here", "_law_start_so", "_law_moves_so", "_law_found", "_law_j", "_law_sights_so", "_law_row_so", "_law_nigh_so", "_law_k"] : List String).map Str.ofString
def b63 : Df := ⟨9, 3, (.seq (.asg 3 true (.fn 62 (.cn (.var 1) .nl))) (.seq (.for_ (.many [4, 5]) (.sq (.var 2)) (.seq (.asg 6 false (.brw (.lc [7, 8] (.many [7, 8]) (.zp (.idx (.idx (.var 0) (.var 4)) (.int 1)) (.var 5)) (.bl true) (.idx (.idx (.var 3) (.var 7)) (.var 8)) false))) (.seq (.sto 3 (.var 4) (.brw (.add (.idx (.var 3) (.var 4)) (.lst (.cn (.fn 58 (.cn (.var 0) (.cn (.var 4) (.cn (.var 6) .nl)))) .nl))))) .nil))) (.seq (.retv 3) .nil)))⟩
/-- _law_moves -/
def n64 : List Str := (["_law_tin", "_law_hall_here", "_law_start_so", "_law_many_so", "_law_found", "_law_lap", "_law_seen_so", "_law_j", "_law_nigh_so"] : List String).map Str.ofString
def b64 : Df := ⟨9, 4, (.seq (.asg 4 true (.lst .nl)) (.seq (.for_ (.one 5) (.rng (.ite (.cmp .ne (.var 1) (.tup .nl)) (.var 3) (.int 0))) (.seq (.asg 6 false (.brw (.fn 63 (.cn (.var 1) (.cn (.var 2) (.cn (.var 4) .nl)))))) (.seq (.asg 7 false (.fn 51 (.cn (.var 0) (.cn (.bi .len (.cn (.var 1) .nl)) .nl)))) (.seq (.app 4 (.tup (.cn (.var 7) (.cn (.bi .tuple (.cn (.lc [8] (.one 8) (.sq (.idx (.idx (.var 1) (.var 7)) (.int 1))) (.bl true) (.fn 51 (.cn (.var 0) (.cn (.bi .len (.cn (.idx (.var 6) (.var 8)) .nl)) .nl))) false) .nl)) .nl)))) .nil)))) (.seq (.ret (.brw (.bi .tuple (.cn (.var 4) .nl)))) .nil)))⟩
/-- _law_lamps -/
def n65 : List Str := (["_law_wish_so", "_law_lamp_so"] : List String).map Str.ofString
def b65 : Df := ⟨2, 0, (.seq (.par 0 1 false false (.tup (.cn (.tup (.cn (.str "off") (.cn (.str "on") .nl))) (.cn (.tup .nl) (.cn (.tup (.cn (.int 1) .nl)) .nl)))) (.tup (.cn (.tup (.cn (.str "off") (.cn (.str "on") .nl))) (.cn (.tup (.cn (.int 0) .nl)) (.cn (.tup (.cn (.int 0) (.cn (.int 1) .nl))) .nl))))) (.seq (.ret (.tup (.cn (.var 0) (.cn (.var 1) (.cn (.tup (.cn (.tup (.cn (.str "free") (.cn (.str "ann") (.cn (.str "bob") .nl)))) (.cn (.tup (.cn (.int 1) (.cn (.int 2) .nl))) (.cn (.tup (.cn (.int 0) (.cn (.int 0) (.cn (.int 0) (.cn (.int 1) (.cn (.int 1) (.cn (.int 2) .nl))))))) .nl)))) .nl))))) .nil))⟩
/-- _law_swings -/
def n66 : List Str := ([] : List String).map Str.ofString
def b66 : Df := ⟨0, 0, (.seq (.ret (.tup (.cn (.tup (.cn (.tup (.cn (.str "no") (.cn (.str "yes") .nl))) (.cn (.tup (.cn (.int 1) .nl)) (.cn (.tup (.cn (.int 1) (.cn (.int 0) .nl))) .nl)))) (.cn (.tup (.cn (.tup (.cn (.str "no") (.cn (.str "yes") .nl))) (.cn (.tup (.cn (.int 0) .nl)) (.cn (.tup (.cn (.int 1) (.cn (.int 0) .nl))) .nl)))) .nl)))) .nil)⟩
/-- _law_counts -/
def n67 : List Str := (["_law_hall_here", "_law_start_so", "_law_moves_so", "_law_sizes_so", "_law_own"] : List String).map Str.ofString
def b67 : Df := ⟨5, 3, (.seq (.asg 3 true (.lc [4] (.one 4) (.sq (.fn 62 (.cn (.var 1) .nl))) (.bl true) (.bi .len (.cn (.var 4) .nl)) false)) (.seq (.for_ (.one 4) (.sq (.var 2)) (.seq (.sto 3 (.idx (.var 4) (.int 0)) (.brw (.add (.idx (.var 3) (.idx (.var 4) (.int 0))) (.int 1)))) .nil)) (.seq (.retv 3) .nil)))⟩
/-- _law_gone -/
def n68 : List Str := (["_law_hall_here", "_law_start_so", "_law_moves_so", "_law_spins_so", "_law_j", "_law_backs_so", "_law_sizes_so", "_law_sees_so", "_law_eye_so", "_law_own"] : List String).map Str.ofString
def b68 : Df := ⟨10, 4, (.seq (.for_ (.many [4, 5]) (.sq (.var 3)) (.seq (.asg 6 false (.fn 67 (.cn (.var 0) (.cn (.var 1) (.cn (.var 2) .nl))))) (.seq (.asg 7 false (.bi .tuple (.cn (.lc [8, 9] (.many [8, 9]) (.zp (.idx (.idx (.var 0) (.var 4)) (.int 1)) (.var 5)) (.bl true) (.sub (.sub (.idx (.var 6) (.var 8)) (.int 1)) (.var 9)) false) .nl))) (.seq (.ife (.or_ (.cmp .ne (.lc [9] (.one 9) (.sq (.var 7)) (.cmp .lt (.var 9) (.int 0)) (.var 9) false) (.lst .nl)) (.cmp .ne (.bi .len (.cn (.var 5) .nl)) (.bi .len (.cn (.idx (.idx (.var 0) (.var 4)) (.int 1)) .nl)))) (.seq (.ret .non) .nil) .nil) (.seq (.asg 2 false (.add (.var 2) (.tup (.cn (.tup (.cn (.var 4) (.cn (.var 7) .nl))) .nl)))) .nil))))) (.seq (.ret (.var 2)) .nil))⟩
/-- _law_deep -/
def n69 : List Str := (["_law_hall_here", "_law_spins_so", "_law_found", "_law_j", "_law_backs_so", "_law_eye_so", "_law_own"] : List String).map Str.ofString
def b69 : Df := ⟨7, 2, (.seq (.asg 2 true (.lc [6] (.one 6) (.sq (.var 0)) (.bl true) (.int 1) false)) (.seq (.for_ (.many [3, 4]) (.sq (.var 1)) (.seq (.for_ (.many [5, 6]) (.zp (.idx (.idx (.var 0) (.var 3)) (.int 1)) (.var 4)) (.seq (.sto 2 (.var 5) (.brw (.bi .max2 (.cn (.idx (.var 2) (.var 5)) (.cn (.add (.var 6) (.int 1)) .nl))))) .nil)) .nil)) (.seq (.retv 2) .nil)))⟩
/-- _law_tails -/
def n70 : List Str := (["_law_hall_here", "_law_start_so", "_law_moves_so", "_law_deep_so", "_law_own", "_law_size_so"] : List String).map Str.ofString
def b70 : Df := ⟨6, 4, (.seq (.ret (.lc [4, 5] (.many [4, 5]) (.zp (.fn 63 (.cn (.var 0) (.cn (.var 1) (.cn (.var 2) .nl)))) (.var 3)) (.bl true) (.bi .tuple (.cn (.slc (.var 4) (.sm (.neg (.var 5))) .nl) .nl)) false)) .nil)⟩
/-- _law_woven -/
def n71 : List Str := (["_law_tin", "_law_near_so", "_law_far_so", "_law_wide_so", "_law_lap", "_law_left_so", "_law_right_so", "_law_found", "_law_own"] : List String).map Str.ofString
def b71 : Df := ⟨9, 4, (.seq (.tri 5 6 7 true true true (.bi .list (.cn (.var 1) .nl)) (.lc [8] (.one 8) (.sq (.var 2)) (.bl true) (.tup (.cn (.add (.idx (.var 8) (.int 0)) (.var 3)) (.cn (.idx (.var 8) (.int 1)) .nl))) false) (.lst .nl)) (.seq (.for_ (.one 4) (.rng (.add (.bi .len (.cn (.var 1) .nl)) (.bi .len (.cn (.var 2) .nl)))) (.seq (.ife (.brw (.or_ (.cmp .eq (.var 6) (.lst .nl)) (.and_ (.cmp .ne (.var 5) (.lst .nl)) (.cmp .eq (.fn 51 (.cn (.var 0) (.cn (.int 2) .nl))) (.int 0))))) (.seq (.apop 7 5 (.int 0)) .nil) (.seq (.apop 7 6 (.int 0)) .nil)) .nil)) (.seq (.ret (.brw (.bi .tuple (.cn (.var 7) .nl)))) .nil)))⟩
/-- _law_met -/
def n72 : List Str := (["_law_hall_here", "_law_start_so", "_law_deep_so", "_law_spins_so", "_law_lap", "_law_moves_so", "_law_met_so", "_law_ways_so", "_law_j", "_law_here", "_law_sizes_so", "_law_eye_so"] : List String).map Str.ofString
def b72 : Df := ⟨12, 4, (.seq (.tri 5 6 7 false false false (.tup .nl) (.lst .nl) (.lst .nl)) (.seq (.for_ (.one 4) (.rng (.bi .maxl (.cn (.add (.lst (.cn (.int 0) .nl)) (.var 2)) .nl))) (.seq (.for_ (.one 8) (.rng (.bi .len (.cn (.var 0) .nl))) (.seq (.asg 10 false (.fn 67 (.cn (.var 0) (.cn (.var 1) (.cn (.var 5) .nl))))) (.seq (.asg 5 false (.add (.var 5) (.tup (.cn (.tup (.cn (.var 8) (.cn (.bi .tuple (.cn (.lc [11] (.one 11) (.sq (.idx (.idx (.var 0) (.var 8)) (.int 1))) (.bl true) (.sub (.idx (.var 10) (.var 11)) (.int 1)) false) .nl)) .nl))) .nl)))) .nil))) .nil)) (.seq (.for_ (.one 4) (.rng (.int 6)) (.seq (.asg 9 false (.fn 70 (.cn (.var 0) (.cn (.var 1) (.cn (.var 5) (.cn (.var 2) .nl)))))) (.seq (.ife (.cmp .in_ (.var 9) (.var 6)) (.seq (.ret (.tup (.cn (.idx (.var 7) (.mix (.var 6) (.var 9))) (.cn (.sub (.var 4) (.mix (.var 6) (.var 9))) .nl)))) .nil) .nil) (.seq (.par 6 7 false false (.add (.var 6) (.lst (.cn (.var 9) .nl))) (.add (.var 7) (.lst (.cn (.var 5) .nl)))) (.seq (.asg 5 false (.fn 68 (.cn (.var 0) (.cn (.var 1) (.cn (.var 5) (.cn (.var 3) .nl)))))) .nil))))) (.seq (.ret .non) .nil))))⟩
/-- _law_beside_right -/
def n73 : List Str := (["_law_tin", "_law_pair_so", "_law_starts_so", "_law_rows_so", "_law_start_so", "_law_moves_so", "_law_parts_so", "_law_got", "_law_due", "_law_own_so", "_law_both_so", "_law_wide_so", "_law_run_so", "_law_runs_so", "_law_k", "_law_j", "_law_own", "_law_its"] : List String).map Str.ofString
def b73 : Df := ⟨18, 4, (.seq (.par 10 11 false false (.fn 25 (.cn (.idx (.var 1) (.int 0)) (.cn (.idx (.var 1) (.int 1)) .nl))) (.bi .len (.cn (.idx (.var 1) (.int 0)) .nl))) (.seq (.asg 4 false (.bi .tuple (.cn (.lc [16, 17] (.many [16, 17]) (.zp (.idx (.var 2) (.int 0)) (.idx (.var 2) (.int 1))) (.bl true) (.add (.var 16) (.var 17)) false) .nl))) (.seq (.asg 5 false (.fn 71 (.cn (.var 0) (.cn (.idx (.var 3) (.int 0)) (.cn (.idx (.var 3) (.int 1)) (.cn (.var 11) .nl)))))) (.seq (.par 12 13 false false (.tup (.cn (.var 4) (.cn (.var 5) .nl))) (.lc [14] (.one 14) (.rng (.int 2)) (.bl true) (.tup (.cn (.idx (.var 2) (.var 14)) (.cn (.idx (.var 3) (.var 14)) .nl))) false)) (.seq (.asg 6 false (.lc [14] (.one 14) (.rng (.int 2)) (.bl true) (.lc [15] (.one 15) (.rng (.bi .len (.cn (.idx (.var 1) (.var 14)) .nl))) (.bl true) (.fn 30 (.cn (.idx (.var 1) (.var 14)) (.cn (.idx (.var 13) (.var 14)) (.cn (.var 15) .nl)))) false) false)) (.seq (.asg 7 true (.lst (.cn (.fn 43 (.cn (.var 10) (.cn (.var 12) .nl))) (.cn (.lc [15] (.one 15) (.rng (.bi .len (.cn (.var 10) .nl))) (.bl true) (.fn 30 (.cn (.var 10) (.cn (.var 12) (.cn (.var 15) .nl)))) false) .nl)))) (.seq (.app 7 (.fn 33 (.cn (.var 10) (.cn (.var 12) .nl)))) (.seq (.asg 8 false (.lst (.cn (.bl true) (.cn (.add (.idx (.var 6) (.int 0)) (.idx (.var 6) (.int 1))) (.cn (.add (.fn 33 (.cn (.idx (.var 1) (.int 0)) (.cn (.idx (.var 13) (.int 0)) .nl))) (.fn 33 (.cn (.idx (.var 1) (.int 1)) (.cn (.idx (.var 13) (.int 1)) .nl)))) .nl))))) (.seq (.asg 9 false (.fn 36 (.cn (.var 10) (.cn (.var 12) .nl)))) (.seq (.frz 7) (.seq (.asg 7 false (.add (.var 7) (.lst (.cn (.bi .tuple (.cn (.lc [16] (.one 16) (.sq (.var 9)) (.cmp .lt (.idx (.var 16) (.int 0)) (.var 11)) (.var 16) false) .nl)) .nl)))) (.seq (.asg 7 false (.add (.var 7) (.lst (.cn (.bi .tuple (.cn (.lc [16] (.one 16) (.sq (.var 9)) (.cmp .ge (.idx (.var 16) (.int 0)) (.var 11)) (.tup (.cn (.sub (.idx (.var 16) (.int 0)) (.var 11)) (.cn (.idx (.var 16) (.int 1)) .nl))) false) .nl)) .nl)))) (.seq (.asg 8 false (.add (.var 8) (.lst (.cn (.fn 36 (.cn (.idx (.var 1) (.int 0)) (.cn (.idx (.var 13) (.int 0)) .nl))) (.cn (.fn 36 (.cn (.idx (.var 1) (.int 1)) (.cn (.idx (.var 13) (.int 1)) .nl))) .nl))))) (.seq (.asg 7 false (.add (.var 7) (.lst (.cn (.lc [15] (.one 15) (.rng (.var 11)) (.bl true) (.fn 38 (.cn (.var 10) (.cn (.var 12) (.cn (.var 15) .nl)))) false) (.cn (.bi .len (.cn (.fn 32 (.cn (.var 10) (.cn (.var 12) .nl))) .nl)) .nl))))) (.seq (.asg 8 false (.add (.var 8) (.lst (.cn (.lc [15] (.one 15) (.rng (.var 11)) (.bl true) (.fn 38 (.cn (.idx (.var 1) (.int 0)) (.cn (.idx (.var 13) (.int 0)) (.cn (.var 15) .nl)))) false) (.cn (.add (.bi .len (.cn (.var 5) .nl)) (.int 1)) .nl))))) (.seq (.ret (.fn 55 (.cn (.var 7) (.cn (.var 8) .nl)))) .nil))))))))))))))))⟩
/-- _law_laps_right -/
def n74 : List Str := (["_law_tin", "_law_pair_so", "_law_starts_so", "_law_rings_so", "_law_start_so", "_law_run_so", "_law_spins_so", "_law_fine", "_law_got", "_law_k", "_law_hall_here", "_law_j", "_law_told_so", "_law_wide_so", "_law_both_so", "_law_own", "_law_its"] : List String).map Str.ofString
def b74 : Df := ⟨17, 3, (.seq (.asg 3 true (.lst .nl)) (.seq (.for_ (.many [9, 10]) (.enm (.var 1)) (.seq (.asg 6 false (.tup .nl)) (.seq (.for_ (.one 11) (.sq (.fn 54 (.cn (.var 0) (.cn (.lrng (.bi .len (.cn (.var 10) .nl))) (.cn (.bi .len (.cn (.var 10) .nl)) .nl))))) (.seq (.asg 6 false (.add (.var 6) (.tup (.cn (.tup (.cn (.var 11) (.cn (.bi .tuple (.cn (.lc [15] (.one 15) (.sq (.idx (.idx (.var 10) (.var 11)) (.int 1))) (.bl true) (.fn 53 (.cn (.var 0) (.cn (.lst (.cn (.int 0) (.cn (.int 0) (.cn (.int 1) .nl)))) .nl))) false) .nl)) .nl))) .nl)))) .nil)) (.seq (.asg 12 false (.fn 72 (.cn (.var 10) (.cn (.idx (.var 2) (.var 9)) (.cn (.fn 69 (.cn (.var 10) (.cn (.var 6) .nl))) (.cn (.var 6) .nl)))))) (.seq (.ife (.cmp .is_ (.var 12) .non) (.seq (.ret (.bl true)) .nil) .nil) (.seq (.app 3 (.tup (.cn (.idx (.var 12) (.int 0)) (.cn (.mul (.var 6) (.idx (.var 12) (.int 1))) .nl)))) .nil)))))) (.seq (.par 13 14 false false (.bi .len (.cn (.idx (.var 1) (.int 0)) .nl)) (.fn 25 (.cn (.idx (.var 1) (.int 0)) (.cn (.idx (.var 1) (.int 1)) .nl)))) (.seq (.asg 4 false (.bi .tuple (.cn (.lc [15, 16] (.many [15, 16]) (.zp (.idx (.var 2) (.int 0)) (.idx (.var 2) (.int 1))) (.bl true) (.add (.var 15) (.var 16)) false) .nl))) (.seq (.asg 5 false (.brw (.tup (.cn (.var 4) (.cn (.fn 71 (.cn (.var 0) (.cn (.idx (.idx (.var 3) (.int 0)) (.int 0)) (.cn (.idx (.idx (.var 3) (.int 1)) (.int 0)) (.cn (.var 13) .nl))))) .nl))))) (.seq (.asg 6 false (.brw (.fn 71 (.cn (.var 0) (.cn (.idx (.idx (.var 3) (.int 0)) (.int 1)) (.cn (.idx (.idx (.var 3) (.int 1)) (.int 1)) (.cn (.var 13) .nl))))))) (.seq (.asg 7 false (.brw (.lc [9, 10] (.many [9, 10]) (.enm (.var 1)) (.bl true) (.fn 48 (.cn (.var 10) (.cn (.tup (.cn (.tup (.cn (.idx (.var 2) (.var 9)) (.cn (.idx (.idx (.var 3) (.var 9)) (.int 0)) .nl))) (.cn (.idx (.idx (.var 3) (.var 9)) (.int 1)) .nl))) .nl))) false))) (.seq (.asg 8 true (.lst (.cn (.fn 46 (.cn (.var 14) (.cn (.tup (.cn (.var 5) (.cn (.var 6) .nl))) .nl))) (.cn (.fn 48 (.cn (.var 14) (.cn (.tup (.cn (.var 5) (.cn (.var 6) .nl))) .nl))) .nl)))) (.seq (.app 8 (.fn 43 (.cn (.var 14) (.cn (.fn 41 (.cn (.var 14) (.cn (.var 5) (.cn (.var 6) .nl)))) .nl)))) (.seq (.ret (.brw (.fn 55 (.cn (.var 8) (.cn (.lst (.cn (.bl true) (.cn (.cmp .in_ (.bl true) (.var 7)) (.cn (.bl true) .nl)))) .nl))))) .nil))))))))))⟩
/-- _law_turned_right -/
def n75 : List Str := (["_law_hall_here", "_law_start_so", "_law_moves_so", "_law_less_so", "_law_named_so", "_law_got", "_law_due", "_law_spots_so", "_law_changes_so", "_law_thin_so", "_law_run_so", "_law_j", "_law_sees_so", "_law_slim_so", "_law_bare_so", "_law_own", "_law_its", "_law_eye_so"] : List String).map Str.ofString
def b75 : Df := ⟨18, 3, (.seq (.par 9 10 false false (.fn 24 (.cn (.var 0) .nl)) (.tup (.cn (.var 1) (.cn (.var 2) .nl)))) (.seq (.asg 3 true (.lst .nl)) (.seq (.for_ (.many [11, 12]) (.sq (.var 2)) (.seq (.app 3 (.tup (.cn (.var 11) (.cn (.bi .tuple (.cn (.lc [17, 15] (.many [17, 15]) (.zp (.idx (.idx (.var 0) (.var 11)) (.int 1)) (.var 12)) (.cmp .in_ (.var 17) (.idx (.idx (.var 9) (.var 11)) (.int 1))) (.var 15) false) .nl)) .nl)))) .nil)) (.seq (.par 13 14 false false (.brw (.tup (.cn (.var 1) (.cn (.bi .tuple (.cn (.var 3) .nl)) .nl)))) (.fn 49 (.cn (.var 0) (.cn (.var 10) .nl)))) (.seq (.asg 4 false (.fn 26 (.cn (.var 0) (.cn (.int 0) (.cn (.int 0) (.cn (.str "zzz") .nl)))))) (.seq (.asg 5 true (.lst (.cn (.fn 43 (.cn (.var 9) (.cn (.var 13) .nl))) (.cn (.fn 31 (.cn (.var 9) (.cn (.var 13) .nl))) (.cn (.fn 32 (.cn (.var 4) (.cn (.var 10) .nl))) .nl))))) (.seq (.app 5 (.fn 36 (.cn (.var 4) (.cn (.var 10) .nl)))) (.seq (.asg 6 false (.lst (.cn (.bl true) (.cn (.fn 31 (.cn (.var 0) (.cn (.var 10) .nl))) (.cn (.fn 32 (.cn (.var 0) (.cn (.var 10) .nl))) (.cn (.fn 36 (.cn (.var 0) (.cn (.var 10) .nl))) .nl)))))) (.seq (.asg 7 false (.fn 32 (.cn (.var 0) (.cn (.var 10) .nl)))) (.seq (.asg 8 false (.add (.slc (.var 7) .nl (.sm (.int 1))) (.lc [15, 16] (.many [15, 16]) (.zp (.slc (.var 7) (.sm (.int 1)) .nl) (.var 7)) (.cmp .ne (.var 15) (.var 16)) (.var 15) false))) (.seq (.frz 5) (.seq (.asg 5 false (.add (.var 5) (.lst (.cn (.fn 32 (.cn (.var 0) (.cn (.var 14) .nl))) (.cn (.fn 49 (.cn (.var 0) (.cn (.var 14) .nl))) (.cn (.idx (.fn 49 (.cn (.var 9) (.cn (.var 13) .nl))) (.int 0)) .nl)))))) (.seq (.ret (.fn 55 (.cn (.var 5) (.cn (.add (.var 6) (.lst (.cn (.var 8) (.cn (.var 14) (.cn (.var 1) .nl))))) .nl)))) .nil)))))))))))))⟩
/-- _law_by_hand_right -/
def n76 : List Str := (["_law_tin", "_law_starts_so", "_law_both_so", "_law_start_so", "_law_moves_so", "_law_got", "_law_due", "_law_one_so", "_law_two_so", "_law_pair_so", "_law_rows_so"] : List String).map Str.ofString
def b76 : Df := ⟨11, 1, (.seq (.par 7 8 false false (.fn 66 .nl) (.tup (.cn (.idx (.fn 65 .nl) (.int 0)) (.cn (.tup (.cn (.tup (.cn (.str "off") (.cn (.str "on") .nl))) (.cn (.tup (.cn (.int 0) .nl)) (.cn (.tup (.cn (.int 1) (.cn (.int 1) .nl))) .nl)))) .nl)))) (.seq (.asg 1 false (.tup (.cn (.tup (.cn (.tup (.cn (.int 0) (.cn (.int 0) .nl))) (.cn (.tup (.cn (.tup (.cn (.int 0) .nl)) (.cn (.tup (.cn (.int 0) .nl)) .nl))) .nl))) (.cn (.tup (.cn (.tup (.cn (.int 0) (.cn (.int 0) .nl))) (.cn (.tup (.cn (.tup (.cn (.int 0) .nl)) (.cn (.tup (.cn (.int 0) (.cn (.int 1) .nl))) .nl))) .nl))) .nl)))) (.seq (.asg 2 false (.fn 25 (.cn (.var 7) (.cn (.var 8) .nl)))) (.seq (.asg 3 false (.tup (.cn (.tup (.cn (.int 0) (.cn (.int 0) (.cn (.int 0) (.cn (.int 0) .nl))))) (.cn (.tup (.cn (.tup (.cn (.int 0) .nl)) (.cn (.tup (.cn (.int 0) .nl)) (.cn (.tup (.cn (.int 0) .nl)) (.cn (.tup (.cn (.int 0) (.cn (.int 1) .nl))) .nl))))) .nl)))) (.seq (.asg 4 false (.tup (.cn (.tup (.cn (.int 0) (.cn (.tup (.cn (.int 0) .nl)) .nl))) (.cn (.tup (.cn (.int 3) (.cn (.tup (.cn (.int 0) .nl)) .nl))) (.cn (.tup (.cn (.int 1) (.cn (.tup (.cn (.int 0) .nl)) .nl))) (.cn (.tup (.cn (.int 2) (.cn (.tup .nl) .nl))) (.cn (.tup (.cn (.int 3) (.cn (.tup (.cn (.int 1) .nl)) .nl))) (.cn (.tup (.cn (.int 0) (.cn (.tup (.cn (.int 0) .nl)) .nl))) (.cn (.tup (.cn (.int 1) (.cn (.tup (.cn (.int 2) .nl)) .nl))) .nl))))))))) (.seq (.asg 5 false (.lst (.cn (.fn 31 (.cn (.var 2) (.cn (.tup (.cn (.var 3) (.cn (.var 4) .nl))) .nl))) (.cn (.fn 30 (.cn (.var 2) (.cn (.tup (.cn (.var 3) (.cn (.var 4) .nl))) (.cn (.int 3) .nl)))) .nl)))) (.seq (.asg 6 false (.lst (.cn (.tup (.cn (.int 1) (.cn (.int 1) (.cn (.int 1) (.cn (.int 1) (.cn (.int 1) (.cn (.int 1) (.cn (.int 0) .nl)))))))) (.cn (.tup (.cn (.int 1) (.cn (.int 0) (.cn (.int 1) (.cn (.int 1) .nl))))) .nl)))) (.seq (.asg 5 true (.add (.var 5) (.lst (.cn (.idx (.fn 49 (.cn (.var 2) (.cn (.tup (.cn (.var 3) (.cn (.var 4) .nl))) .nl))) (.int 1)) (.cn (.idx (.idx (.fn 24 (.cn (.var 8) .nl)) (.int 1)) (.int 1)) .nl))))) (.seq (.app 5 (.idx (.fn 36 (.cn (.var 2) (.cn (.tup (.cn (.var 3) (.cn (.var 4) .nl))) .nl))) (.int 4))) (.seq (.asg 6 false (.add (.var 6) (.lst (.cn (.tup (.cn (.tup (.cn (.int 0) (.cn (.tup (.cn (.int 0) .nl)) .nl))) (.cn (.tup (.cn (.int 3) (.cn (.tup (.cn (.int 0) .nl)) .nl))) (.cn (.tup (.cn (.int 1) (.cn (.tup (.cn (.int 0) .nl)) .nl))) (.cn (.tup (.cn (.int 2) (.cn (.tup .nl) .nl))) (.cn (.tup (.cn (.int 1) (.cn (.tup (.cn (.int 1) .nl)) .nl))) .nl)))))) (.cn (.tup .nl) (.cn (.tup (.cn (.int 3) (.cn (.tup (.cn (.int 0) .nl)) .nl))) .nl)))))) (.seq (.ife (.brw (.not_ (.fn 55 (.cn (.var 5) (.cn (.var 6) .nl))))) (.seq (.ret (.bl false)) .nil) .nil) (.seq (.par 9 10 false false (.tup (.cn (.var 7) (.cn (.var 8) .nl))) (.tup (.cn (.add (.slc (.var 4) .nl (.sm (.int 1))) (.slc (.var 4) (.sm (.int 2)) (.sm (.int 3)))) (.cn (.tup (.cn (.tup (.cn (.int 1) (.cn (.tup (.cn (.int 0) .nl)) .nl))) (.cn (.tup (.cn (.int 0) (.cn (.tup .nl) .nl))) (.cn (.tup (.cn (.int 1) (.cn (.tup (.cn (.int 1) .nl)) .nl))) .nl)))) .nl)))) (.seq (.ife (.or_ (.not_ (.fn 73 (.cn (.var 0) (.cn (.var 9) (.cn (.var 1) (.cn (.var 10) .nl)))))) (.not_ (.fn 74 (.cn (.var 0) (.cn (.var 9) (.cn (.var 1) .nl)))))) (.seq (.ret (.bl false)) .nil) .nil) (.seq (.ret (.fn 75 (.cn (.var 8) (.cn (.idx (.var 1) (.int 1)) (.cn (.idx (.var 10) (.int 1)) .nl))))) .nil))))))))))))))⟩
/-- _law_right -/
def n77 : List Str := (["_law_tin", "_law_pair_so", "_law_starts_so", "_law_rows_so", "_law_lap", "_law_own", "_law_its"] : List String).map Str.ofString
def b77 : Df := ⟨7, 1, (.seq (.asg 1 false (.lc [4] (.one 4) (.rng (.int 2)) (.bl true) (.fn 59 (.cn (.var 0) (.cn (.add (.int 1) (.fn 51 (.cn (.var 0) (.cn (.int 2) .nl)))) (.cn (.int 3) .nl)))) false)) (.seq (.asg 2 false (.lc [5] (.one 5) (.sq (.var 1)) (.bl true) (.fn 61 (.cn (.var 0) (.cn (.var 5) .nl))) false)) (.seq (.asg 3 false (.lc [5, 6] (.many [5, 6]) (.zp (.var 1) (.var 2)) (.bl true) (.fn 64 (.cn (.var 0) (.cn (.var 5) (.cn (.var 6) (.cn (.fn 51 (.cn (.var 0) (.cn (.int 6) .nl))) .nl))))) false)) (.seq (.ife (.or_ (.not_ (.fn 73 (.cn (.var 0) (.cn (.var 1) (.cn (.var 2) (.cn (.var 3) .nl)))))) (.not_ (.fn 74 (.cn (.var 0) (.cn (.var 1) (.cn (.var 2) .nl)))))) (.seq (.ret (.bl false)) .nil) .nil) (.seq (.ret (.fn 75 (.cn (.idx (.var 1) (.int 0)) (.cn (.idx (.var 2) (.int 0)) (.cn (.idx (.var 3) (.int 0)) .nl))))) .nil)))))⟩
/-- law -/
def n78 : List Str := (["_law_script", "_law_cells_so", "_law_k"] : List String).map Str.ofString
def b78 : Df := ⟨3, 1, (.seq (.ife (.not_ (.fnt 76 (.lst (.cn (.int 0) (.cn (.int 7) (.cn (.int 0) .nl)))))) (.seq (.ret (.bl false)) .nil) .nil) (.seq (.asg 1 false (.fn 52 (.cn (.var 0) (.cn (.int 1) .nl)))) (.seq (.ret (.bi .all_ (.cn (.lc [2] (.one 2) (.rng (.bi .len (.cn (.var 1) .nl))) (.bl true) (.fnt 77 (.fn 50 (.cn (.var 1) (.cn (.var 2) .nl)))) false) .nl))) .nil)))⟩
end Lt

set_option maxRecDepth 100000
namespace Lt
open PySem
structure E1 where
  i : Nat
  x : String
  d : Df
  N : List Str
def tab : List E1 := [⟨6, "is_number", b0, n0⟩, ⟨7, "is_name", b1, n1⟩, ⟨8, "tupled", b2, n2⟩, ⟨9, "rises", b3, n3⟩, ⟨19, "all_rows", b4, n4⟩, ⟨20, "multiplied", b5, n5⟩, ⟨21, "is_field_shape", b6, n6⟩, ⟨22, "sizes_of", b7, n7⟩, ⟨23, "is_house", b8, n8⟩, ⟨24, "is_value", b9, n9⟩, ⟨25, "is_state", b10, n10⟩, ⟨26, "is_value_set", b11, n11⟩, ⟨27, "is_box", b12, n12⟩, ⟨28, "is_in", b13, n13⟩, ⟨29, "is_start", b14, n14⟩, ⟨30, "check_place", b15, n15⟩, ⟨31, "check_value", b16, n16⟩, ⟨32, "table_at", b17, n17⟩, ⟨33, "rows_of", b18, n18⟩, ⟨34, "does_matter", b19, n19⟩, ⟨35, "matters", b20, n20⟩, ⟨36, "checked", b21, n21⟩, ⟨37, "put_in", b22, n22⟩, ⟨38, "told_anew", b23, n23⟩, ⟨39, "lean", b24, n24⟩, ⟨40, "beside", b25, n25⟩, ⟨41, "renamed", b26, n26⟩, ⟨45, "first_versions", b27, n27⟩, ⟨46, "value_by", b28, n28⟩, ⟨47, "versions_in", b29, n29⟩, ⟨48, "versions", b30, n30⟩, ⟨49, "writes", b31, n31⟩, ⟨50, "states_along", b32, n32⟩, ⟨51, "state_behind", b33, n33⟩, ⟨52, "counts_at", b34, n34⟩, ⟨53, "all_strides", b35, n35⟩, ⟨54, "strides", b36, n36⟩, ⟨55, "newest_by", b37, n37⟩, ⟨56, "newest", b38, n38⟩, ⟨57, "with_move", b39, n39⟩, ⟨58, "sights_back", b40, n40⟩, ⟨59, "gone", b41, n41⟩, ⟨60, "has_form", b42, n42⟩, ⟨61, "is_run", b43, n43⟩, ⟨62, "is_circuit", b44, n44⟩, ⟨63, "depths", b45, n45⟩, ⟨64, "is_lap", b46, n46⟩, ⟨65, "circuit_states", b47, n47⟩, ⟨66, "swings", b48, n48⟩, ⟨67, "cut_run", b49, n49⟩, ⟨69, "_law_box", b50, n50⟩, ⟨70, "_law_take", b51, n51⟩, ⟨71, "_law_cells", b52, n52⟩, ⟨72, "_law_of", b53, n53⟩, ⟨73, "_law_pick", b54, n54⟩, ⟨74, "_law_same", b55, n55⟩, ⟨75, "_law_rows", b56, n56⟩, ⟨76, "_law_sizes", b57, n57⟩, ⟨77, "_law_told", b58, n58⟩, ⟨78, "_law_hall", b59, n59⟩, ⟨79, "_law_spot", b60, n60⟩, ⟨80, "_law_start", b61, n61⟩, ⟨81, "_law_versions", b62, n62⟩, ⟨82, "_law_played", b63, n63⟩, ⟨83, "_law_moves", b64, n64⟩, ⟨84, "_law_lamps", b65, n65⟩, ⟨85, "_law_swings", b66, n66⟩, ⟨86, "_law_counts", b67, n67⟩, ⟨87, "_law_gone", b68, n68⟩, ⟨88, "_law_deep", b69, n69⟩, ⟨89, "_law_tails", b70, n70⟩, ⟨90, "_law_woven", b71, n71⟩, ⟨91, "_law_met", b72, n72⟩, ⟨92, "_law_beside_right", b73, n73⟩, ⟨93, "_law_laps_right", b74, n74⟩, ⟨94, "_law_turned_right", b75, n75⟩, ⟨95, "_law_by_hand_right", b76, n76⟩, ⟨96, "_law_right", b77, n77⟩, ⟨97, "law", b78, n78⟩]
def FL : Nat → FT
  | 0 => fun _ _ _ => none
  | l + 1 => fun n => match tab[n]? with
    | some e => e.d.run (FL l)
    | none => fun _ _ => none
end Lt

namespace Lt.Mt
open PySem

/-! ### the defs by number -/
theorem FL_at {l n : Nat} {e : E1} (h : tab[n]? = some e) : FL (l + 1) n = e.d.run (FL l) := by simp only [FL, h]
/-- some fuel is enough -/
theorem fuel {l k : Nat} (h : k + 1 ≤ l) : ∃ m, l = m + 1 ∧ k ≤ m := ⟨l - 1, by omega, by omega⟩

/-! ### data of numbers -/
def ns (l : List Nat) : List D := l.map fun (n : Nat) => D.int (n : Int)
def tns (l : List Nat) : D := .tup (ns l)
@[simp] theorem ns_len {l : List Nat} : (ns l).length = l.length := by simp [ns]
theorem asInts_map : ∀ (l : List Int), asInts (l.map .int) = some l
  | [] => rfl
  | i :: r => by simp [asInts, asInts_map r]
theorem asInts_ns (l : List Nat) : asInts (ns l) = some (l.map fun (n : Nat) => (n : Int)) := by
  have e : ns l = (l.map fun (n : Nat) => (n : Int)).map .int := by simp [ns]
  rw [e, asInts_map]
theorem asBls_map : ∀ (l : List Bool), asBls (l.map .bl) = some l
  | [] => rfl
  | i :: r => by simp [asBls, asBls_map r]
/-- an index from the left -/
theorem atI_nat {α : Type} {xs : List α} {n : Nat} : L2.atI xs (n : Int) = xs[n]? := by
  unfold L2.atI L2.ixN
  by_cases h : n < xs.length
  · have h2 : (n : Int) < (xs.length : Int) := by omega
    simp [h2]
  · have h2 : ¬ (n : Int) < (xs.length : Int) := by omega
    simp [h2, h]
theorem atI_last {α : Type} {xs : List α} : L2.atI xs (-1) = xs[xs.length - 1]? := by
  unfold L2.atI L2.ixN
  cases xs with
  | nil => simp
  | cons a r =>
    have h1 : ¬ (0 : Int) ≤ -1 := by omega
    have h2 : -(((a :: r).length : Nat) : Int) ≤ -1 := by simp only [List.length_cons]; omega
    have h3 : ((-1 : Int) + (((a :: r).length : Nat) : Int)).toNat = (a :: r).length - 1 := by simp only [List.length_cons]; omega
    rw [if_neg h1, if_pos h2, h3]
    rfl
theorem ixN_nat {m n : Nat} (h : n < m) : L2.ixN m (n : Int) = some n := by
  unfold L2.ixN
  have h2 : (n : Int) < (m : Int) := by omega
  simp [h2]
theorem upto_range : ∀ (n k : Nat), upto k n = (List.range n).map fun i => D.int ((k + i : Nat) : Int)
  | 0, _ => rfl
  | n + 1, k => by
    rw [List.range_succ_eq_map, List.map_cons, List.map_map]
    simp only [upto]
    rw [upto_range n (k + 1)]
    congr 1
    apply List.map_congr_left
    intro i _
    simp only [Function.comp]
    congr 2
    omega
theorem rngD_nat {n : Nat} (h : n ≤ 1000000) : rngD (.int (n : Int)) = some (ns (List.range n)) := by
  show (if -1000000 ≤ (n : Int) ∧ (n : Int) ≤ 1000000 then some (upto 0 (n : Int).toNat) else none) = _
  rw [if_pos (by omega)]
  simp [ns, upto_range]
theorem enm_map {α : Type} {enc : α → D} : ∀ {xs : List α} {k : Nat}, enmD k (xs.map enc) = (xs.zipIdx k).map fun p => .tup [.int (p.2 : Nat), enc p.1]
  | [], _ => rfl
  | x :: xs, k => by simp [enmD, enm_map (xs := xs) (k := k + 1)]
theorem zip_map {α β : Type} {e1 : α → D} {e2 : β → D} : ∀ {xs : List α} {ys : List β}, zipD (xs.map e1) (ys.map e2) = (xs.zip ys).map fun p => .tup [e1 p.1, e2 p.2]
  | [], _ => by simp [zipD]
  | x :: xs, [] => by simp [zipD]
  | x :: xs, y :: ys => by simp [zipD, zip_map (xs := xs) (ys := ys)]

/-! ### comprehensions, loops -/
theorem comp_map {α : Type} {enc : α → D} {g : α → R} {f : D → Ev (Option R)} {ts : Tin} : ∀ {xs : List α}, (∀ a ∈ xs, f (enc a) ts = some (some (g a), ts)) → compL f (xs.map enc) ts = some (xs.map g, ts)
  | [], _ => rfl
  | x :: xs, h => by
    have ih := comp_map (xs := xs) fun a ha => h a (List.mem_cons_of_mem x ha)
    simp [compL, h x (by simp), ih]
theorem comp_filter {α : Type} {enc : α → D} {g : α → R} {p : α → Bool} {f : D → Ev (Option R)} {ts : Tin} : ∀ {xs : List α}, (∀ a ∈ xs, f (enc a) ts = some (if p a then some (g a) else none, ts)) → compL f (xs.map enc) ts = some ((xs.filter p).map g, ts)
  | [], _ => rfl
  | x :: xs, h => by
    have ih := comp_filter fun a ha => h a (List.mem_cons_of_mem x ha)
    have hx := h x (by simp)
    simp only [List.map_cons, compL, hx, ih]
    cases hp : p x <;> simp [hp]
/-- a loop that goes to its end -/
theorem for_rel {α β : Type} {enc : α → D} {f : Env → D → Ev Out} {step : β → α → β} {Rel : β → Env → Prop} {ts : Tin} : ∀ {xs : List α} {s : β} {ρ : Env}, Rel s ρ → (∀ a ∈ xs, ∀ s ρ, Rel s ρ → ∃ ρ', f ρ (enc a) ts = some (.nx ρ', ts) ∧ Rel (step s a) ρ') →
    ∃ ρ', forL f (xs.map enc) ρ ts = some (.nx ρ', ts) ∧ Rel (xs.foldl step s) ρ'
  | [], s, ρ, h, _ => ⟨ρ, rfl, h⟩
  | x :: xs, s, ρ, h, hs => by
    obtain ⟨ρ1, e1, h1⟩ := hs x (by simp) s ρ h
    obtain ⟨ρ2, e2, h2⟩ := for_rel (xs := xs) h1 fun a ha => hs a (by simp [ha])
    exact ⟨ρ2, by simp [forL, e1, e2], h2⟩
end Lt.Mt

namespace Lt.Mt
open PySem
section
variable {F : FT} {ρ ρ1 ρ2 : Env} {ts ts1 ts2 ts3 : Tin} {a b c t it cd elt : Tm} {x y z r r' : R} {d : D} {ds : List D} {i j k n : Nat} {own : List Nat} {tg : Tg} {q : Out × Tin}

/-! ### steps of expressions -/
theorem bs_var (h : getE ρ i = some (.p d)) : ev F (.var i) ρ ts = some (.p d, ts) := by simp only [ev, h]
theorem bs_int {i : Int} : ev F (.int i) ρ ts = some (.p (.int i), ts) := by simp only [ev]
theorem bs_str {i : Str} : ev F (.str i) ρ ts = some (.p (.str i), ts) := by simp only [ev]
theorem bs_bl {i : Bool} : ev F (.bl i) ρ ts = some (.p (.bl i), ts) := by simp only [ev]
theorem bs_non : ev F .non ρ ts = some (.p .non, ts) := by simp only [ev]
theorem bs_glb {x : Str} {i : Int} : ev F (.glb x i) ρ ts = some (.p (.int i), ts) := by simp only [ev]
theorem bs_gls {x i : Str} : ev F (.gls x i) ρ ts = some (.p (.str i), ts) := by simp only [ev]
theorem bs_nl : evL F .nl ρ ts = some ([], ts) := by simp only [evL]
theorem bs_cn (h1 : ev F a ρ ts = some (x, ts1)) (h2 : evL F b ρ ts1 = some (ds, ts2)) : evL F (.cn a b) ρ ts = some (x.fz :: ds, ts2) := by simp only [evL, h1, h2]
theorem bs_cs {xs : List D} (h1 : ev F a ρ ts = some (x, ts1)) (hs : seqD x.fz = some xs) (h2 : evL F b ρ ts1 = some (ds, ts2)) : evL F (.cs a b) ρ ts = some (xs ++ ds, ts2) := by simp only [evL, h1, hs, h2]
theorem bs_tup (h : evL F a ρ ts = some (ds, ts1)) (hl : ds.length ≤ LIM) : ev F (.tup a) ρ ts = some (.p (.tup ds), ts1) := by simp only [ev, h, if_pos hl]
theorem bs_lst (h : evL F a ρ ts = some (ds, ts1)) (hl : ds.length ≤ LIM) : ev F (.lst a) ρ ts = some (.o1 ds, ts1) := by simp only [ev, h, if_pos hl]
theorem bs_add (h1 : ev F a ρ ts = some (x, ts1)) (h2 : ev F b ρ ts1 = some (y, ts2)) (h : addD x.fz y.fz = some r) : ev F (.add a b) ρ ts = some (r, ts2) := by simp only [ev, ev2, h1, h2, h, Option.map_some]
theorem bs_sub (h1 : ev F a ρ ts = some (x, ts1)) (h2 : ev F b ρ ts1 = some (y, ts2)) (h : subD x.fz y.fz = some r) : ev F (.sub a b) ρ ts = some (r, ts2) := by simp only [ev, ev2, h1, h2, h, Option.map_some]
theorem bs_mul (h1 : ev F a ρ ts = some (x, ts1)) (h2 : ev F b ρ ts1 = some (y, ts2)) (h : mulD x.fz y.fz = some r) : ev F (.mul a b) ρ ts = some (r, ts2) := by simp only [ev, ev2, h1, h2, h, Option.map_some]
theorem bs_mod (h1 : ev F a ρ ts = some (x, ts1)) (h2 : ev F b ρ ts1 = some (y, ts2)) (h : modD x.fz y.fz = some r) : ev F (.mod a b) ρ ts = some (r, ts2) := by simp only [ev, ev2, h1, h2, h, Option.map_some]
theorem bs_fdiv (h1 : ev F a ρ ts = some (x, ts1)) (h2 : ev F b ρ ts1 = some (y, ts2)) (h : fdivD x.fz y.fz = some r) : ev F (.fdiv a b) ρ ts = some (r, ts2) := by simp only [ev, ev2, h1, h2, h, Option.map_some]
theorem bs_pow (h1 : ev F a ρ ts = some (x, ts1)) (h2 : ev F b ρ ts1 = some (y, ts2)) (h : powD x.fz y.fz = some r) : ev F (.pow a b) ρ ts = some (r, ts2) := by simp only [ev, ev2, h1, h2, h, Option.map_some]
theorem bs_neg (h1 : ev F a ρ ts = some (x, ts1)) (h : negD x.fz = some r) : ev F (.neg a) ρ ts = some (r, ts1) := by simp only [ev, ev1, h1, h, Option.map_some]
theorem bs_cmp {o : Cop} {k : Bool} (h1 : ev F a ρ ts = some (x, ts1)) (h2 : ev F b ρ ts1 = some (y, ts2)) (h : cmpD o x.fz y.fz = some k) : ev F (.cmp o a b) ρ ts = some (.p (.bl k), ts2) := by simp only [ev, ev2, h1, h2, h, Option.map_some]
/-- the third is looked at only where it is wanted; it draws nothing -/
theorem bs_chn {o1 o2 : Cop} {k m : Bool} (h1 : ev F a ρ ts = some (x, ts1)) (h2 : ev F b ρ ts1 = some (y, ts2)) (h3 : cmpD o1 x.fz y.fz = some k) (h4 : k = true → ∃ z, ev F c ρ ts2 = some (z, ts2) ∧ cmpD o2 y.fz z.fz = some m) : ev F (.chn o1 o2 a b c) ρ ts = some (.p (.bl (k && m)), ts2) := by
  cases k with
  | true =>
    obtain ⟨z, e1, e2⟩ := h4 rfl
    simp only [ev, h1, h2, h3, e1, e2, Bool.true_and]
  | false => simp only [ev, h1, h2, h3, Bool.false_and]
theorem bs_and {k m : Bool} (h1 : ev F a ρ ts = some (.p (.bl k), ts1)) (h2 : k = true → ev F b ρ ts1 = some (.p (.bl m), ts1)) : ev F (.and_ a b) ρ ts = some (.p (.bl (k && m)), ts1) := by
  cases k with
  | true => simp only [ev, h1, evB, h2 rfl, Bool.true_and]
  | false => simp only [ev, h1, Bool.false_and]
theorem bs_or {k m : Bool} (h1 : ev F a ρ ts = some (.p (.bl k), ts1)) (h2 : k = false → ev F b ρ ts1 = some (.p (.bl m), ts1)) : ev F (.or_ a b) ρ ts = some (.p (.bl (k || m)), ts1) := by
  cases k with
  | true => simp only [ev, h1, Bool.true_or]
  | false => simp only [ev, h1, evB, h2 rfl, Bool.false_or]
/-- .. and with draws -/
theorem bs_andT {m : Bool} (h1 : ev F a ρ ts = some (.p (.bl true), ts1)) (h2 : ev F b ρ ts1 = some (.p (.bl m), ts2)) : ev F (.and_ a b) ρ ts = some (.p (.bl m), ts2) := by simp only [ev, h1, evB, h2]
theorem bs_andF (h1 : ev F a ρ ts = some (.p (.bl false), ts1)) : ev F (.and_ a b) ρ ts = some (.p (.bl false), ts1) := by simp only [ev, h1]
theorem bs_orT (h1 : ev F a ρ ts = some (.p (.bl true), ts1)) : ev F (.or_ a b) ρ ts = some (.p (.bl true), ts1) := by simp only [ev, h1]
theorem bs_orF {m : Bool} (h1 : ev F a ρ ts = some (.p (.bl false), ts1)) (h2 : ev F b ρ ts1 = some (.p (.bl m), ts2)) : ev F (.or_ a b) ρ ts = some (.p (.bl m), ts2) := by simp only [ev, h1, evB, h2]
theorem bs_not {k : Bool} (h1 : ev F a ρ ts = some (.p (.bl k), ts1)) : ev F (.not_ a) ρ ts = some (.p (.bl (!k)), ts1) := by simp only [ev, h1]
theorem bs_orl1 {v : D} {vs : List D} (h1 : ev F a ρ ts = some (.o1 (v :: vs), ts1)) : ev F (.orl a b) ρ ts = some (.o1 (v :: vs), ts1) := by simp only [ev, h1]
theorem bs_orl0 (h1 : ev F a ρ ts = some (.o1 [], ts1)) (h2 : ev F b ρ ts1 = some (r, ts2)) : ev F (.orl a b) ρ ts = some (r, ts2) := by simp only [ev, h1, h2]
theorem bs_ite {k : Bool} (h1 : ev F c ρ ts = some (.p (.bl k), ts1)) (h2 : k = true → ev F a ρ ts1 = some (r, ts2)) (h3 : k = false → ev F b ρ ts1 = some (r', ts2)) : ev F (.ite c a b) ρ ts = some (if k then r else r', ts2) := by
  cases k with
  | true => simp only [ev, h1, h2 rfl, if_true]
  | false => simp only [ev, h1, h3 rfl, Bool.false_eq_true, if_false]
theorem bs_fn {f : Nat} (h : evL F a ρ ts = some (ds, ts1)) (hc : F f ds ts1 = some (r, ts2)) (cl : r.clean = true) : ev F (.fn f a) ρ ts = some (r, ts2) := by simp only [ev, h, hc, cl, if_true]
theorem bs_fnt {f : Nat} {xs : List D} {is : List Int} (h : ev F a ρ ts = some (.o1 xs, ts1)) (hi : asInts xs = some is) (hc : F f [.tin] is = some (r, ts2)) (cl : r.clean = true) : ev F (.fnt f a) ρ ts = some (r, ts1) := by simp only [ev, h, hi, hc, cl, if_true]
theorem bs_bi {b : Bi} (h : evL F a ρ ts = some (ds, ts1)) (hb : biD b ds = some r) : ev F (.bi b a) ρ ts = some (r, ts1) := by simp only [ev, h, hb, Option.map_some]
theorem bs_isi {ks : List Ty} {k : Bool} (h : ev F a ρ ts = some (x, ts1)) (hb : isTs ks x.fz = some k) : ev F (.isi ks a) ρ ts = some (.p (.bl k), ts1) := by simp only [ev, ev1, h, hb, Option.map_some]
theorem bs_lset (h : ev F a ρ ts = some (x, ts1)) (hb : lsetD x.fz = some r) : ev F (.lset a) ρ ts = some (r, ts1) := by simp only [ev, ev1, h, hb, Option.map_some]
theorem bs_lrng (h : ev F a ρ ts = some (x, ts1)) (hb : rngD x.fz = some ds) : ev F (.lrng a) ρ ts = some (.o1 ds, ts1) := by simp only [ev, ev1, h, hb, Option.map_some]
theorem bs_idx (h1 : ev F a ρ ts = some (x, ts1)) (h2 : ev F b ρ ts1 = some (y, ts2)) (h : idxD ts2 x.fz y.fz = some d) : ev F (.idx a b) ρ ts = some (.p d, ts2) := by simp only [ev, h1, h2, h, Option.map_some]
theorem bs_nlO : evO F .nl ρ ts = some (none, ts) := by simp only [evO]
theorem bs_sm {i : Int} (h : ev F a ρ ts = some (.p (.int i), ts1)) : evO F (.sm a) ρ ts = some (some i, ts1) := by simp only [evO, h]
theorem bs_slc {l h : Tm} {lo hi : Option Int} (h1 : ev F a ρ ts = some (x, ts1)) (h2 : evO F l ρ ts1 = some (lo, ts2)) (h3 : evO F h ρ ts2 = some (hi, ts3)) (e : slcD x.fz lo hi = some r) : ev F (.slc a l h) ρ ts = some (r, ts3) := by simp only [ev, h1, h2, h3, e, Option.map_some]
theorem bs_mix (h1 : ev F a ρ ts = some (x, ts1)) (h2 : ev F b ρ ts1 = some (y, ts2)) (h : mixD x.fz y.fz = some r) : ev F (.mix a b) ρ ts = some (r, ts2) := by simp only [ev, ev2, h1, h2, h, Option.map_some]
theorem bs_brw (h : ev F a (frozen ρ) ts = some (r, ts1)) (cl : r.clean = true) : ev F (.brw a) ρ ts = some (r, ts1) := by simp only [ev, h, cl, if_true]
theorem bs_rng (h : ev F a ρ ts = some (x, ts1)) (e : rngD x.fz = some ds) : evI F (.rng a) ρ ts = some (ds, ts1) := by simp only [evI, h, e, Option.map_some]
theorem bs_enm {xs : List D} (h : ev F a ρ ts = some (x, ts1)) (e : seqD x.fz = some xs) : evI F (.enm a) ρ ts = some (enmD 0 xs, ts1) := by simp only [evI, h, e, Option.map_some]
theorem bs_zp {xs ys : List D} (h1 : ev F a ρ ts = some (x, ts1)) (h2 : ev F b ρ ts1 = some (y, ts2)) (e1 : seqD x.fz = some xs) (e2 : seqD y.fz = some ys) : evI F (.zp a b) ρ ts = some (zipD xs ys, ts2) := by simp only [evI, h1, h2, e1, e2]
theorem bs_sq {xs : List D} (h : ev F a ρ ts = some (x, ts1)) (e : seqD x.fz = some xs) : evI F (.sq a) ρ ts = some (xs, ts1) := by simp only [evI, h, e, Option.map_some]
/-- a turn of a comprehension -/
def lcT (F : FT) (own : List Nat) (tg : Tg) (cd elt : Tm) (ρ : Env) : D → Ev (Option R) := fun x ts => match setTg (wipeE ρ own) tg x with
  | none => none
  | some ρ1 => match ev F cd ρ1 ts with
    | some (.p (.bl true), ts2) => match ev F elt ρ1 ts2 with
      | some (r, ts3) => some (some r, ts3)
      | none => none
    | some (.p (.bl false), ts2) => some (none, ts2)
    | _ => none
theorem ev_lcT {k : Bool} : ev F (.lc own tg it cd elt k) ρ ts = match evI F it ρ ts with
    | some (xs, ts1) => match compL (lcT F own tg cd elt ρ) xs ts1 with
      | some (rs, ts2) => (joinR k rs).map fun r => (r, ts2)
      | none => none
    | none => none := by
  rw [ev]
  rfl
theorem bs_lcR {rs : List R} {k : Bool} (hi : evI F it ρ ts = some (ds, ts1)) (hc : compL (lcT F own tg cd elt ρ) ds ts1 = some (rs, ts2)) (hj : joinR k rs = some r) : ev F (.lc own tg it cd elt k) ρ ts = some (r, ts2) := by
  rw [ev_lcT, hi]
  simp only [hc, hj, Option.map_some]
theorem lcT_one (h1 : setTg (wipeE ρ own) tg d = some ρ1) (h2 : ev F elt ρ1 ts = some (r, ts1)) : lcT F own tg (.bl true) elt ρ d ts = some (some r, ts1) := by simp only [lcT, h1, bs_bl, h2]
theorem lcT_yes (h1 : setTg (wipeE ρ own) tg d = some ρ1) (h0 : ev F cd ρ1 ts = some (.p (.bl true), ts1)) (h2 : ev F elt ρ1 ts1 = some (r, ts2)) : lcT F own tg cd elt ρ d ts = some (some r, ts2) := by simp only [lcT, h1, h0, h2]
theorem lcT_no (h1 : setTg (wipeE ρ own) tg d = some ρ1) (h0 : ev F cd ρ1 ts = some (.p (.bl false), ts1)) : lcT F own tg cd elt ρ d ts = some (none, ts1) := by simp only [lcT, h1, h0]
theorem bs_lc {α : Type} {enc : α → D} {l : List α} (g : α → D) (hi : evI F it ρ ts = some (l.map enc, ts1)) (h : ∀ a ∈ l, ∃ ρ1 r, setTg (wipeE ρ own) tg (enc a) = some ρ1 ∧ ev F elt ρ1 ts1 = some (r, ts1) ∧ r.fz = g a) : ev F (.lc own tg it (.bl true) elt false) ρ ts = some (.o1 (l.map g), ts1) := by
  have key : ∀ l' : List α, (∀ a ∈ l', a ∈ l) → ∃ rs, compL (lcT F own tg (.bl true) elt ρ) (l'.map enc) ts1 = some (rs, ts1) ∧ rs.map R.fz = l'.map g := by
    intro l'
    induction l' with
    | nil => exact fun _ => ⟨[], rfl, rfl⟩
    | cons v l' ih =>
      intro hm
      obtain ⟨rs, e1, e2⟩ := ih fun w hw => hm w (by simp [hw])
      obtain ⟨ρ1, r, e3, e4, e5⟩ := h v (hm v (by simp))
      exact ⟨r :: rs, by simp only [List.map_cons, compL, lcT_one e3 e4, e1], by simp [e2, e5]⟩
  obtain ⟨rs, e1, e2⟩ := key l fun _ z => z
  exact bs_lcR hi e1 (by simp [joinR, e2])
theorem bs_lcf {α : Type} {enc : α → D} {l : List α} (p : α → Bool) (g : α → D) (hi : evI F it ρ ts = some (l.map enc, ts1)) (h : ∀ a ∈ l, ∃ ρ1, setTg (wipeE ρ own) tg (enc a) = some ρ1 ∧ ev F cd ρ1 ts1 = some (.p (.bl (p a)), ts1) ∧ (p a = true → ∃ r, ev F elt ρ1 ts1 = some (r, ts1) ∧ r.fz = g a)) :
    ev F (.lc own tg it cd elt false) ρ ts = some (.o1 ((l.filter p).map g), ts1) := by
  have key : ∀ l' : List α, (∀ a ∈ l', a ∈ l) → ∃ rs, compL (lcT F own tg cd elt ρ) (l'.map enc) ts1 = some (rs, ts1) ∧ rs.map R.fz = (l'.filter p).map g := by
    intro l'
    induction l' with
    | nil => exact fun _ => ⟨[], rfl, rfl⟩
    | cons v l' ih =>
      intro hm
      obtain ⟨rs, e1, e2⟩ := ih fun w hw => hm w (by simp [hw])
      obtain ⟨ρ1, e3, e4, e5⟩ := h v (hm v (by simp))
      cases hp : p v with
      | true =>
        rw [hp] at e4
        obtain ⟨r, e6, e7⟩ := e5 hp
        exact ⟨r :: rs, by simp only [List.map_cons, compL, lcT_yes e3 e4 e6, e1], by simp [e2, e7, hp]⟩
      | false =>
        rw [hp] at e4
        exact ⟨rs, by simp only [List.map_cons, compL, lcT_no e3 e4, e1], by simp [e2, hp]⟩
  obtain ⟨rs, e1, e2⟩ := key l fun _ z => z
  exact bs_lcR hi e1 (by simp [joinR, e2])
/-- a list of lists of our own -/
theorem bs_lck {α : Type} {enc : α → D} {l : List α} (g : α → List D) (hi : evI F it ρ ts = some (l.map enc, ts1)) (h : ∀ a ∈ l, ∃ ρ1, setTg (wipeE ρ own) tg (enc a) = some ρ1 ∧ ev F elt ρ1 ts1 = some (.o1 (g a), ts1)) : ev F (.lc own tg it (.bl true) elt true) ρ ts = some (.o2 (l.map g), ts1) := by
  have key : ∀ l' : List α, (∀ a ∈ l', a ∈ l) → ∃ rs, compL (lcT F own tg (.bl true) elt ρ) (l'.map enc) ts1 = some (rs, ts1) ∧ allO1 rs = some (l'.map g) := by
    intro l'
    induction l' with
    | nil => exact fun _ => ⟨[], rfl, rfl⟩
    | cons v l' ih =>
      intro hm
      obtain ⟨rs, e1, e2⟩ := ih fun w hw => hm w (by simp [hw])
      obtain ⟨ρ1, e3, e4⟩ := h v (hm v (by simp))
      exact ⟨.o1 (g v) :: rs, by simp only [List.map_cons, compL, lcT_one e3 e4, e1], by simp [allO1, e2]⟩
  obtain ⟨rs, e1, e2⟩ := key l fun _ z => z
  exact bs_lcR hi e1 (by simp [joinR, e2])

theorem bs_all {α : Type} {enc : α → D} {l : List α} (p : α → Bool) (hi : evI F it ρ ts = some (l.map enc, ts1)) (h : ∀ a ∈ l, ∃ ρ1, setTg (wipeE ρ own) tg (enc a) = some ρ1 ∧ ev F elt ρ1 ts1 = some (.p (.bl (p a)), ts1)) : ev F (.bi .all_ (.cn (.lc own tg it (.bl true) elt false) .nl)) ρ ts = some (.p (.bl (l.all p)), ts1) := by
  refine bs_bi (bs_cn (bs_lc (fun a => .bl (p a)) hi fun a ha => ?_) bs_nl) ?_
  · obtain ⟨ρ1, h1, h2⟩ := h a ha
    exact ⟨ρ1, _, h1, h2, rfl⟩
  · show allD [.lst (l.map fun a => D.bl (p a))] = _
    have e : (l.map fun a => D.bl (p a)) = (l.map p).map D.bl := by simp
    simp only [allD, e, asBls_map]
    simp [List.all_map]
theorem bs_any {α : Type} {enc : α → D} {l : List α} (p : α → Bool) (hi : evI F it ρ ts = some (l.map enc, ts1)) (h : ∀ a ∈ l, ∃ ρ1, setTg (wipeE ρ own) tg (enc a) = some ρ1 ∧ ev F elt ρ1 ts1 = some (.p (.bl (p a)), ts1)) : ev F (.bi .any_ (.cn (.lc own tg it (.bl true) elt false) .nl)) ρ ts = some (.p (.bl (l.any p)), ts1) := by
  refine bs_bi (bs_cn (bs_lc (fun a => .bl (p a)) hi fun a ha => ?_) bs_nl) ?_
  · obtain ⟨ρ1, h1, h2⟩ := h a ha
    exact ⟨ρ1, _, h1, h2, rfl⟩
  · show anyD [.lst (l.map fun a => D.bl (p a))] = _
    have e : (l.map fun a => D.bl (p a)) = (l.map p).map D.bl := by simp
    simp only [anyD, e, asBls_map]
    simp [List.any_map]
/-- all of them hold -/
theorem bs_allT {α : Type} {enc : α → D} {l : List α} (hi : evI F it ρ ts = some (l.map enc, ts1)) (h : ∀ a ∈ l, ∃ ρ1, setTg (wipeE ρ own) tg (enc a) = some ρ1 ∧ ev F elt ρ1 ts1 = some (.p (.bl true), ts1)) : ev F (.bi .all_ (.cn (.lc own tg it (.bl true) elt false) .nl)) ρ ts = some (.p (.bl true), ts1) := by
  have e := bs_all (fun _ => true) hi h
  have e2 : (l.all fun _ => true) = true := by simp
  rw [e2] at e
  exact e

/-! ### steps of statements -/
theorem bx_nil : ex F .nil ρ ts = some (.nx ρ, ts) := by simp only [ex]
theorem bx_seq {s1 s2 : Stm} (h1 : ex F s1 ρ ts = some (.nx ρ1, ts1)) (h2 : ex F s2 ρ1 ts1 = some q) : ex F (.seq s1 s2) ρ ts = some q := by simp only [ex, h1, h2]
theorem bx_rt {s1 s2 : Stm} (h1 : ex F s1 ρ ts = some (.rt r, ts1)) : ex F (.seq s1 s2) ρ ts = some (.rt r, ts1) := by simp only [ex, h1]
theorem bx_asg {o : Bool} (h : ev F t ρ ts = some (r, ts1)) (ha : asgR o r = some r') : ex F (.asg i o t) ρ ts = some (.nx (setE ρ i (some r')), ts1) := by simp only [ex, h, ha, Option.map_some]
theorem bx_mov (h : getE ρ j = some r) (ha : asgR true r = some r') : ex F (.mov i j) ρ ts = some (.nx (setE (setE ρ j none) i (some r')), ts) := by simp only [ex, h, ha, Option.map_some]
theorem bx_unp {is : List Nat} (h : ev F t ρ ts = some (.p (.tup ds), ts1)) (hs : setEs ρ is ds = some ρ1) : ex F (.unp is t) ρ ts = some (.nx ρ1, ts1) := by simp only [ex, h, hs, Option.map_some]
theorem bx_par {oi oj : Bool} {u v : R} (h1 : ev F a ρ ts = some (x, ts1)) (h2 : ev F b ρ ts1 = some (y, ts2)) (e1 : asgR oi x = some u) (e2 : asgR oj y = some v) : ex F (.par i j oi oj a b) ρ ts = some (.nx (setE (setE ρ i (some u)) j (some v)), ts2) := by simp only [ex, h1, h2, e1, e2]
theorem bx_tri {oi oj ok : Bool} {u v w : R} (h1 : ev F a ρ ts = some (x, ts1)) (h2 : ev F b ρ ts1 = some (y, ts2)) (h3 : ev F c ρ ts2 = some (z, ts3)) (e1 : asgR oi x = some u) (e2 : asgR oj y = some v) (e3 : asgR ok z = some w) :
    ex F (.tri i j k oi oj ok a b c) ρ ts = some (.nx (setE (setE (setE ρ i (some u)) j (some v)) k (some w)), ts3) := by simp only [ex, h1, h2, h3, e1, e2, e3]
theorem bx_par3 {xs : List D} {y z : D} (h1 : ev F a ρ ts = some (.o1 xs, ts1)) (h2 : ev F b ρ ts1 = some (.p (.tup [y, z]), ts2)) : ex F (.par3 i j k a b) ρ ts = some (.nx (setE (setE (setE ρ i (some (.o1 xs))) j (some (.p y))) k (some (.p z))), ts2) := by simp only [ex, h1, h2]
theorem bx_frz (h : getE ρ i = some r) : ex F (.frz i) ρ ts = some (.nx (setE ρ i (some (.p r.fz))), ts) := by simp only [ex, h]
theorem bx_exp (h : ev F t ρ ts = some (r, ts1)) : ex F (.exp t) ρ ts = some (.nx ρ, ts1) := by simp only [ex, h]
theorem bx_app {xs : List D} (h : ev F t ρ ts = some (x, ts1)) (hg : getE ρ i = some (.o1 xs)) (hl : xs.length < LIM) : ex F (.app i t) ρ ts = some (.nx (setE ρ i (some (.o1 (xs ++ [x.fz])))), ts1) := by simp only [ex, h, hg, if_pos hl]
theorem bx_app2 {xss : List (List D)} {xs : List D} {m : Int} {n : Nat} (h1 : ev F a ρ ts = some (.p (.int m), ts1)) (h2 : ev F t ρ ts1 = some (x, ts2)) (hg : getE ρ i = some (.o2 xss)) (hn : L2.ixN xss.length m = some n) (hx : xss[n]? = some xs) (hl : xs.length < LIM) :
    ex F (.app2 i a t) ρ ts = some (.nx (setE ρ i (some (.o2 (xss.set n (xs ++ [x.fz]))))), ts2) := by simp only [ex, h1, h2, hg, hn, hx, if_pos hl]
theorem bx_sto {m : Int} (h1 : ev F t ρ ts = some (x, ts1)) (h2 : ev F a ρ ts1 = some (.p (.int m), ts2)) (hg : getE ρ i = some r) (hn : r ≠ .p .tin) (hs : stoR r m x = some r') : ex F (.sto i a t) ρ ts = some (.nx (setE ρ i (some r')), ts2) := by
  simp only [ex, h1, h2, hg, hs, Option.map_some]
theorem bx_stoT {m z : Int} (h1 : ev F t ρ ts = some (.p (.int z), ts1)) (h2 : ev F a ρ ts1 = some (.p (.int m), ts2)) (hg : getE ρ i = some (.p .tin)) (hn : L2.ixN ts2.length m = some n) : ex F (.sto i a t) ρ ts = some (.nx ρ, ts2.set n z) := by simp only [ex, h1, h2, hg, hn, Option.map_some]
theorem bx_apop {xs ys : List D} {m : Int} (h : ev F t ρ ts = some (.p (.int m), ts1)) (h1 : getE ρ i = some (.o1 xs)) (h2 : getE ρ j = some (.o1 ys)) (hn : L2.ixN ys.length m = some n) (hy : ys[n]? = some d) (hl : xs.length < LIM) (hij : i ≠ j) :
    ex F (.apop i j t) ρ ts = some (.nx (setE (setE ρ j (some (.o1 (ys.eraseIdx n)))) i (some (.o1 (xs ++ [d])))), ts1) := by simp only [ex, h, h1, h2, hn, hy, if_pos (And.intro hl hij)]
theorem bx_ret (h : ev F t ρ ts = some (r, ts1)) (cl : r.clean = true) : ex F (.ret t) ρ ts = some (.rt r, ts1) := by simp only [ex, h, cl, if_true]
theorem bx_retv (h : getE ρ i = some r) (cl : r.clean = true) : ex F (.retv i) ρ ts = some (.rt r, ts) := by simp only [ex, h, cl, if_true]
theorem bx_ifT {s1 s2 : Stm} (h : ev F c ρ ts = some (.p (.bl true), ts1)) (h1 : ex F s1 ρ ts1 = some q) : ex F (.ife c s1 s2) ρ ts = some q := by simp only [ex, h, h1]
theorem bx_ifF {s1 s2 : Stm} (h : ev F c ρ ts = some (.p (.bl false), ts1)) (h1 : ex F s2 ρ ts1 = some q) : ex F (.ife c s1 s2) ρ ts = some q := by simp only [ex, h, h1]
/-- one turn of a loop -/
def turn (F : FT) (tg : Tg) (s : Stm) : Env → D → Ev Out := fun ρ x ts => match setTg ρ tg x with
  | some ρ1 => ex F s ρ1 ts
  | none => none
theorem bx_for {s : Stm} {xs : List D} (h : evI F it ρ ts = some (xs, ts1)) (h1 : forL (turn F tg s) xs ρ ts1 = some q) : ex F (.for_ tg it s) ρ ts = some q := by
  simp only [ex, h]
  exact h1
theorem bturn {s : Stm} {d : D} (h : setTg ρ tg d = some ρ1) (h1 : ex F s ρ1 ts = some q) : turn F tg s ρ d ts = some q := by simp only [turn, h, h1]
/-- a def -/
theorem bf_rt {e : Df} (hl : ds.length = e.m) (h : ex F e.body (ds.map (fun d => some (.p d)) ++ List.replicate (e.n - e.m) none) ts = some (.rt r, ts1)) : e.run F ds ts = some (r, ts1) := by simp only [Df.run, if_pos hl, h]
theorem bf_nx {e : Df} (hl : ds.length = e.m) (h : ex F e.body (ds.map (fun d => some (.p d)) ++ List.replicate (e.n - e.m) none) ts = some (.nx ρ1, ts1)) : e.run F ds ts = some (.p .non, ts1) := by simp only [Df.run, if_pos hl, h]
theorem FL_rt {l n : Nat} {e : E1} (h : tab[n]? = some e) (hl : ds.length = e.d.m) (hx : ex (FL l) e.d.body (ds.map (fun d => some (.p d)) ++ List.replicate (e.d.n - e.d.m) none) ts = some (.rt r, ts1)) : FL (l + 1) n ds ts = some (r, ts1) := by rw [FL_at h]; exact bf_rt hl hx
theorem FL_nx {l n : Nat} {e : E1} (h : tab[n]? = some e) (hl : ds.length = e.d.m) (hx : ex (FL l) e.d.body (ds.map (fun d => some (.p d)) ++ List.replicate (e.d.n - e.d.m) none) ts = some (.nx ρ1, ts1)) : FL (l + 1) n ds ts = some (.p .non, ts1) := by rw [FL_at h]; exact bf_nx hl hx
end
end Lt.Mt

namespace Lt.Mt
open PySem

/-! ### places in encoded lists -/
theorem atI_m {α : Type} {enc : α → D} {l : List α} {i : Nat} {a : α} (h : l[i]? = some a) : L2.atI (l.map enc) (i : Int) = some (enc a) := by
  rw [atI_nat, List.getElem?_map, h]; rfl
theorem idx_t {α : Type} {enc : α → D} {l : List α} {i : Nat} {a : α} {ts : Tin} (h : l[i]? = some a) : idxD ts (.tup (l.map enc)) (.int (i : Int)) = some (enc a) := atI_m h
theorem idx_l {α : Type} {enc : α → D} {l : List α} {i : Nat} {a : α} {ts : Tin} (h : l[i]? = some a) : idxD ts (.lst (l.map enc)) (.int (i : Int)) = some (enc a) := atI_m h
theorem idx_n {l : List Nat} {i a : Nat} {ts : Tin} (h : l[i]? = some a) : idxD ts (tns l) (.int (i : Int)) = some (.int (a : Int)) := idx_t h
theorem idx_ln {l : List Nat} {i a : Nat} {ts : Tin} (h : l[i]? = some a) : idxD ts (.lst (ns l)) (.int (i : Int)) = some (.int (a : Int)) := idx_l h

/-! ### numbers, names -/
section
variable {F : FT} {ρ : Env} {ts ts1 : Tin} {a : Tm}
theorem bs_ch {s : Str} (h : ev F a ρ ts = some (.p (.str s), ts1)) (hl : s.cps.size ≤ LIM) : evI F (.ch a) ρ ts = some (s.cps.toList.map fun c => .str ⟨#[c]⟩, ts1) := by simp only [evI, h, if_pos hl]
end
theorem f_isnum {l : Nat} {i : Int} {ts : Tin} : FL (l + 1) 0 [.int i] ts = some (.p (.bl true), ts) := by rfl
def inSigns (c : Nat) : Bool := match inD (.str ⟨#[c]⟩) (.str "abcdefghijklmnopqrstuvwxyz") with
  | some true => true
  | _ => false
def isNm (s : Str) : Bool := decide (1 ≤ s.length) && decide (s.length ≤ 8) && s.cps.toList.all inSigns
theorem nm0 : isNm "no" = true := by decide +kernel
theorem nm1 : isNm "yes" = true := by decide +kernel
theorem nm2 : isNm "zeal" = true := by decide +kernel
theorem nm3 : isNm "zzz" = true := by decide +kernel
theorem f_isname {l : Nat} {s : Str} {ts : Tin} (h : isNm s = true) : FL (l + 1) 1 [.str s] ts = some (.p (.bl true), ts) := by
  simp only [isNm, Bool.and_eq_true, decide_eq_true_eq] at h
  obtain ⟨⟨h1, h2⟩, h3⟩ := h
  have hl : lenD [.str s] = some (.p (.int s.length)) := by simp only [lenD]; rw [if_pos (show s.length ≤ LIM from Nat.le_trans h2 (by decide))]
  refine FL_rt rfl rfl (bx_seq (bx_ifF (bs_orF (bs_not (bs_isi (k := true) (bs_var rfl) rfl)) (bs_not (bs_chn (k := true) (m := true) bs_int (bs_bi (bs_cn (bs_var rfl) bs_nl) (by exact hl)) ?_ fun _ => ⟨_, bs_glb, ?_⟩))) bx_nil) (bx_rt (bx_ret (bs_allT (bs_ch (bs_var rfl) (Nat.le_trans h2 (by decide))) ?_) rfl)))
  · show some (decide ((1 : Int) ≤ (s.length : Int))) = _
    simp; omega
  · show some (decide ((s.length : Int) ≤ 8)) = _
    simp; omega
  · intro c hc
    have := List.all_eq_true.mp h3 c hc
    refine ⟨_, rfl, bs_cmp (bs_var rfl) bs_gls ?_⟩
    show inD (.str ⟨#[c]⟩) (.str "abcdefghijklmnopqrstuvwxyz") = some true
    unfold inSigns at this
    split at this
    · assumption
    · cases this

theorem rngD_pred {n : Nat} (h : n ≤ 1000000) : rngD (.int ((n : Int) - 1)) = some (ns (List.range (n - 1))) := by
  cases n with
  | zero => rfl
  | succ n =>
    have e : ((n + 1 : Nat) : Int) - 1 = (n : Int) := by omega
    rw [e, rngD_nat (by omega)]
    rfl
/-- it rises: only that it does is ever wanted -/
theorem f_rises {l : Nat} {xs : List Nat} {ts : Tin} (hl : xs.length ≤ 1000) (hp : xs.Pairwise (· < ·)) : FL (l + 1) 3 [tns xs] ts = some (.p (.bl true), ts) := by
  refine FL_rt rfl rfl (bx_rt (bx_ret (bs_allT (l := List.range (xs.length - 1)) (enc := fun n => .int (n : Nat)) (bs_rng (bs_sub (bs_bi (bs_cn (bs_var rfl) bs_nl) rfl) bs_int rfl) ?_) ?_) rfl))
  · show rngD (.int (((ns xs).length : Int) - 1)) = _
    rw [ns_len]
    exact rngD_pred (by omega)
  · intro k hk
    have hk2 : k + 1 < xs.length := by have := List.mem_range.mp hk; omega
    have e1 : xs[k]? = some xs[k] := List.getElem?_eq_getElem (by omega)
    have e2 : xs[k + 1]? = some xs[k + 1] := List.getElem?_eq_getElem hk2
    refine ⟨_, rfl, bs_cmp (bs_idx (bs_var rfl) (bs_var rfl) (idx_n e1)) (bs_idx (bs_var rfl) (bs_add (bs_var rfl) bs_int rfl) (idx_n (i := k + 1) e2)) ?_⟩
    have := List.pairwise_iff_getElem.mp hp k (k + 1) (by omega) hk2 (by omega)
    show some (decide ((xs[k] : Int) < (xs[k + 1] : Int))) = _
    simp; omega

/-! ### plain data: only tuples, lists, scalars, so deep -/
def pl : Nat → D → Bool
  | _, .int _ => true
  | _, .bl _ => true
  | _, .str _ => true
  | _, .non => true
  | k + 1, .tup xs => xs.all (pl k)
  | k + 1, .lst xs => xs.all (pl k)
  | _, _ => false
def tp : Nat → D → D
  | k + 1, .tup xs => .tup (xs.map (tp k))
  | k + 1, .lst xs => .tup (xs.map (tp k))
  | _, d => d
theorem nls_all : ∀ {xs : List D}, (∀ x ∈ xs, x.nl = true) → D.nls xs = true
  | [], _ => by simp [D.nls]
  | x :: xs, h => by simp [D.nls, h x (by simp), nls_all (xs := xs) fun y hy => h y (List.mem_cons_of_mem x hy)]
theorem tp_nl : ∀ {k : Nat} {d : D}, pl k d = true → (tp k d).nl = true := by
  intro k
  induction k with
  | zero => intro d h; cases d <;> simp [pl] at h <;> rfl
  | succ k ih =>
    intro d h
    cases d with
    | tup xs =>
      simp only [pl, List.all_eq_true] at h
      simp only [tp, D.nl]
      exact nls_all fun x hx => by obtain ⟨y, hy, rfl⟩ := List.mem_map.mp hx; exact ih (h y hy)
    | lst xs =>
      simp only [pl, List.all_eq_true] at h
      simp only [tp, D.nl]
      exact nls_all fun x hx => by obtain ⟨y, hy, rfl⟩ := List.mem_map.mp hx; exact ih (h y hy)
    | dct ks vs => simp [pl] at h
    | tin => simp [pl] at h
    | scr xs => simp [pl] at h
    | _ => rfl
theorem f_tupled {l : Nat} {ts : Tin} : ∀ {k : Nat} {d : D}, pl k d = true → FL (l + k + 1) 2 [d] ts = some (.p (tp k d), ts) := by
  intro k
  induction k with
  | zero =>
    intro d h
    cases d <;> simp [pl] at h <;> rfl
  | succ k ih =>
    intro d h
    have key : ∀ (xs : List D), (d = .tup xs ∨ d = .lst xs) → FL (l + (k + 1) + 1) 2 [d] ts = some (.p (.tup (xs.map (tp k))), ts) := by
      intro xs hd
      have hx : ∀ a ∈ xs, pl k a = true := by rcases hd with rfl | rfl <;> exact List.all_eq_true.mp h
      have e := bs_lc (F := FL (l + (k + 1))) (own := [1]) (tg := .one 1) (it := .sq (.var 0)) (elt := .fn 2 (.cn (.var 1) .nl)) (ρ := [some (.p d), none]) (ts := ts) (ts1 := ts) (enc := fun x => x) (l := xs) (tp k)
        (bs_sq (bs_var rfl) (by rcases hd with rfl | rfl <;> simp [R.fz, seqD])) (fun a ha => ⟨_, _, rfl, bs_fn (bs_cn (bs_var rfl) bs_nl) (ih (hx a ha)) (tp_nl (hx a ha)), rfl⟩)
      have e2 : isTs [.list, .tuple] d = some true := by rcases hd with rfl | rfl <;> rfl
      refine FL_rt rfl rfl (bx_rt (bx_ret (bs_ite (k := true) (r' := .p .non) (bs_isi (bs_var rfl) e2) (fun _ => bs_bi (bs_cn e bs_nl) rfl) (fun h => by cases h)) ?_))
      show D.nls (xs.map (tp k)) = true
      exact nls_all fun x hx' => by obtain ⟨y, hy, rfl⟩ := List.mem_map.mp hx'; exact tp_nl (hx y hy)
    cases d with
    | tup xs => exact key xs (.inl rfl)
    | lst xs => exact key xs (.inr rfl)
    | dct ks vs => simp [pl] at h
    | tin => simp [pl] at h
    | scr xs => simp [pl] at h
    | _ => rfl
end Lt.Mt

namespace Lt.Mt
open PySem

/-! ### equal data: whole numbers, truth values, lists and tuples, so deep -/
def ipd : Nat → D → Bool
  | _, .int _ => true
  | k + 1, .tup xs => xs.all (ipd k)
  | k + 1, .lst xs => xs.all (ipd k)
  | _, _ => false
def bpd : Nat → D → Bool
  | _, .int _ => true
  | _, .bl _ => true
  | k + 1, .tup xs => xs.all (bpd k)
  | k + 1, .lst xs => xs.all (bpd k)
  | _, _ => false
theorem eqI {i : Int} : eqD (.int i) (.int i) = some true := by simp [eqD, D.sc, L2.scal]
theorem eqB {i : Bool} : eqD (.bl i) (.bl i) = some true := by simp [eqD, D.sc, L2.scal]
theorem eqII {i j : Int} : eqD (.int i) (.int j) = some (decide (i = j)) := by simp [eqD, D.sc, L2.scal]
theorem eqBB {i j : Bool} : eqD (.bl i) (.bl j) = some (decide (i = j)) := by simp [eqD, D.sc, L2.scal]
theorem zip_self : ∀ {xs : List D}, zipD xs xs = xs.map fun x => .tup [x, x]
  | [] => rfl
  | x :: xs => by simp [zipD, zip_self (xs := xs)]
theorem f_same {l : Nat} {ts : Tin} : ∀ {k : Nat} {d : D}, bpd k d = true → FL (l + k + 1) 55 [d, d] ts = some (.p (.bl true), ts) := by
  have base : ∀ {l : Nat} {d : D}, bpd 0 d = true → FL (l + 1) 55 [d, d] ts = some (.p (.bl true), ts) := by
    intro l d h
    cases d <;> simp [bpd] at h
    case int i =>
      exact FL_rt rfl rfl (bx_seq (bx_ifF (bs_isi (bs_var rfl) rfl) bx_nil) (bx_seq (bx_ifF (bs_orF (bs_cmp (bs_var rfl) bs_non rfl) (bs_isi (bs_var rfl) rfl)) bx_nil)
        (bx_rt (bx_ret (bs_and (k := true) (bs_isi (bs_var rfl) rfl) fun _ => (bs_and (k := true) (bs_not (bs_isi (k := false) (bs_var rfl) rfl)) fun _ => (bs_cmp (o := .eq) (bs_var rfl) (bs_var rfl) eqI))) rfl))))
    case bl i =>
      exact FL_rt rfl rfl (bx_seq (bx_ifF (bs_isi (bs_var rfl) rfl) bx_nil) (bx_rt (bx_ifT (bs_orF (bs_cmp (bs_var rfl) bs_non rfl) (bs_isi (bs_var rfl) rfl)) 
        (bx_rt (bx_ret (bs_and (k := true) (bs_cmp (o := .eq) (bs_var rfl) (bs_var rfl) eqB) fun _ => (bs_and (k := true) (bs_cmp (o := .eq) (bs_isi (k := true) (bs_var rfl) rfl) (bs_isi (k := true) (bs_var rfl) rfl) eqB) fun _ => (bs_cmp (o := .eq) (bs_cmp (k := false) (bs_var rfl) bs_non rfl) (bs_cmp (k := false) (bs_var rfl) bs_non rfl) eqB))) rfl)))))
  intro k
  induction k with
  | zero => exact base
  | succ k ih =>
    intro d h
    have key : ∀ (xs : List D), (d = .tup xs ∨ d = .lst xs) → FL (l + (k + 1) + 1) 55 [d, d] ts = some (.p (.bl true), ts) := by
      intro xs hd
      have hx : ∀ a ∈ xs, bpd k a = true := by rcases hd with rfl | rfl <;> exact List.all_eq_true.mp h
      have e2 : isTs [.list, .tuple] d = some true := by rcases hd with rfl | rfl <;> rfl
      have e3 : ∃ b, isTs [.list] d = some b := by rcases hd with rfl | rfl <;> exact ⟨_, rfl⟩
      have e4 : ∃ b, isTs [.tuple] d = some b := by rcases hd with rfl | rfl <;> exact ⟨_, rfl⟩
      obtain ⟨b3, e3⟩ := e3
      obtain ⟨b4, e4⟩ := e4
      have ne : ∀ b : Bool, cmpD .ne (.bl b) (.bl b) = some false := fun b => by simp only [cmpD, eqB]; rfl
      have e5 : seqD d = some xs := by rcases hd with rfl | rfl <;> rfl
      have e6 : biD .len [d] = some (.p (.int xs.length)) := by rcases hd with rfl | rfl <;> rfl
      refine FL_rt rfl rfl (bx_rt (bx_ifT (bs_isi (bs_var rfl) e2) (bx_seq (bx_ifF (bs_orF (bs_cmp (bs_isi (bs_var rfl) e3) (bs_isi (bs_var rfl) e3) (ne _)) (bs_cmp (bs_isi (bs_var rfl) e4) (bs_isi (bs_var rfl) e4) (ne _))) bx_nil)
        (bx_rt (bx_ret (bs_and (k := true) (bs_cmp (o := .eq) (bs_bi (bs_cn (bs_var rfl) bs_nl) e6) (bs_bi (bs_cn (bs_var rfl) bs_nl) e6) eqI) fun _ => (bs_allT (l := xs) (enc := fun x => .tup [x, x]) ?_ fun a ha => ⟨_, rfl, (bs_fn (bs_cn (bs_var rfl) (bs_cn (bs_var rfl) bs_nl)) (ih (hx a ha)) rfl)⟩)) rfl)))))
      rw [← zip_self]
      exact bs_zp (bs_var rfl) (bs_var rfl) e5 e5
    cases d with
    | tup xs => exact key xs (.inl rfl)
    | lst xs => exact key xs (.inr rfl)
    | int i => exact base rfl
    | bl i => exact base rfl
    | _ => simp [bpd] at h

/-! ### == on such data -/
theorem ipd_okL {k : Nat} (ih : ∀ d : D, ipd k d = true → d.pd.canLay0 = true ∧ d.pd.depth ≤ k) : ∀ {xs : List D}, (∀ x ∈ xs, ipd k x = true) → PyData.canLayAll0 (D.pds xs) = true ∧ PyData.depthAll (D.pds xs) ≤ k
  | [], _ => by simp [D.pds, PyData.canLayAll0, PyData.depthAll]
  | x :: xs, h => by
    obtain ⟨h1, h2⟩ := ih x (h x (by simp))
    obtain ⟨h3, h4⟩ := ipd_okL ih (xs := xs) fun y hy => h y (List.mem_cons_of_mem x hy)
    simp only [D.pds, PyData.canLayAll0, PyData.depthAll, h1, h3, Bool.and_self, true_and]
    omega
theorem ipd_ok : ∀ {k : Nat} {d : D}, ipd k d = true → d.pd.canLay0 = true ∧ d.pd.depth ≤ k := by
  intro k
  induction k with
  | zero => intro d h; cases d <;> simp [ipd] at h; simp [D.pd, PyData.canLay0, PyData.depth]
  | succ k ih =>
    intro d h
    cases d <;> simp only [ipd, Bool.false_eq_true] at h
    case int i => simp [D.pd, PyData.canLay0, PyData.depth]
    all_goals
      obtain ⟨q1, q2⟩ := ipd_okL (fun d h => ih h) (List.all_eq_true.mp h)
      simp only [D.pd, PyData.canLay0, PyData.depth]
      exact ⟨q1, by omega⟩
theorem okD {k : Nat} {d : D} (h : ipd k d = true) (hk : k ≤ 64) : d.ok = true := by
  obtain ⟨h1, h2⟩ := ipd_ok h
  simp only [D.ok, SeqAt.shaped, h1, Bool.true_and, decide_eq_true_eq]
  omega
theorem eqvL {k : Nat} (ih : ∀ a b : D, ipd k a = true → ipd k b = true → (PyData.eqv a.pd b.pd = true ↔ a = b)) : ∀ {xs ys : List D}, (∀ x ∈ xs, ipd k x = true) → (∀ x ∈ ys, ipd k x = true) → (PyData.eqvAll (D.pds xs) (D.pds ys) = true ↔ xs = ys)
  | [], [], _, _ => by simp [D.pds, PyData.eqvAll]
  | [], _ :: _, _, _ => by simp [D.pds, PyData.eqvAll]
  | _ :: _, [], _, _ => by simp [D.pds, PyData.eqvAll]
  | x :: xs, y :: ys, h, g => by
    have e1 := ih x y (h x (by simp)) (g y (by simp))
    have e2 := eqvL ih (xs := xs) (ys := ys) (fun z hz => h z (List.mem_cons_of_mem x hz)) (fun z hz => g z (List.mem_cons_of_mem y hz))
    simp only [D.pds, PyData.eqvAll, Bool.and_eq_true, e1, e2, List.cons.injEq]
theorem deq_iff : ∀ {k : Nat} {a b : D}, ipd k a = true → ipd k b = true → (deq a b = true ↔ a = b) := by
  intro k
  induction k with
  | zero => intro a b h g; cases a <;> simp [ipd] at h; cases b <;> simp [ipd] at g; simp [deq, D.pd, PyData.eqv]
  | succ k ih =>
    intro a b h g
    cases a <;> simp only [ipd, Bool.false_eq_true] at h <;> cases b <;> simp only [ipd, Bool.false_eq_true] at g
    case int.int => simp [deq, D.pd, PyData.eqv]
    case tup.tup xs ys =>
      have := eqvL (fun a b h g => ih h g) (List.all_eq_true.mp h) (List.all_eq_true.mp g)
      simpa [deq, D.pd, PyData.eqv] using this
    case lst.lst xs ys =>
      have := eqvL (fun a b h g => ih h g) (List.all_eq_true.mp h) (List.all_eq_true.mp g)
      simpa [deq, D.pd, PyData.eqv] using this
    all_goals simp [deq, D.pd, PyData.eqv]
/-- two tuples or lists -/
theorem eqTT {k : Nat} {xs ys : List D} (h : ipd k (.tup xs) = true) (g : ipd k (.tup ys) = true) (hk : k ≤ 64) : eqD (.tup xs) (.tup ys) = some (deq (.tup xs) (.tup ys)) := by
  simp [eqD, D.sc, okD h hk, okD g hk]
theorem eqLL {k : Nat} {xs ys : List D} (h : ipd k (.lst xs) = true) (g : ipd k (.lst ys) = true) (hk : k ≤ 64) : eqD (.lst xs) (.lst ys) = some (deq (.lst xs) (.lst ys)) := by
  simp [eqD, D.sc, okD h hk, okD g hk]
theorem map_inj {α : Type} {enc : α → D} (hi : ∀ a b, enc a = enc b → a = b) : ∀ {xs ys : List α}, xs.map enc = ys.map enc ↔ xs = ys
  | [], [] => by simp
  | [], _ :: _ => by simp
  | _ :: _, [] => by simp
  | x :: xs, y :: ys => by
    simp only [List.map_cons, List.cons.injEq, map_inj hi (xs := xs) (ys := ys)]
    exact ⟨fun h => ⟨hi _ _ h.1, h.2⟩, fun h => ⟨by rw [h.1], h.2⟩⟩
theorem int_inj (a b : Nat) (h : D.int (a : Int) = D.int (b : Int)) : a = b := by injection h with h; omega
theorem tns_inj (a b : List Nat) (h : tns a = tns b) : a = b := by
  injection h with h
  exact (map_inj int_inj).mp h
theorem lns_inj (a b : List Nat) (h : D.lst (ns a) = .lst (ns b)) : a = b := by
  injection h with h
  exact (map_inj int_inj).mp h
theorem ipd_int {k : Nat} {i : Int} : ipd k (.int i) = true := by cases k <;> rfl
theorem ipd_t {α : Type} {enc : α → D} {k : Nat} {xs : List α} (h : ∀ a ∈ xs, ipd k (enc a) = true) : ipd (k + 1) (.tup (xs.map enc)) = true := by
  simp only [ipd, List.all_map, List.all_eq_true]; exact h
theorem ipd_l {α : Type} {enc : α → D} {k : Nat} {xs : List α} (h : ∀ a ∈ xs, ipd k (enc a) = true) : ipd (k + 1) (.lst (xs.map enc)) = true := by
  simp only [ipd, List.all_map, List.all_eq_true]; exact h
theorem ipd_tns {k : Nat} {xs : List Nat} : ipd (k + 1) (tns xs) = true := ipd_t fun _ _ => ipd_int
theorem ipd_lns {k : Nat} {xs : List Nat} : ipd (k + 1) (.lst (ns xs)) = true := ipd_l fun _ _ => ipd_int
theorem bpd_int {k : Nat} {i : Int} : bpd k (.int i) = true := by cases k <;> rfl
theorem bpd_bl {k : Nat} {i : Bool} : bpd k (.bl i) = true := by cases k <;> rfl
theorem bpd_t {α : Type} {enc : α → D} {k : Nat} {xs : List α} (h : ∀ a ∈ xs, bpd k (enc a) = true) : bpd (k + 1) (.tup (xs.map enc)) = true := by
  simp only [bpd, List.all_map, List.all_eq_true]; exact h
theorem bpd_l {α : Type} {enc : α → D} {k : Nat} {xs : List α} (h : ∀ a ∈ xs, bpd k (enc a) = true) : bpd (k + 1) (.lst (xs.map enc)) = true := by
  simp only [bpd, List.all_map, List.all_eq_true]; exact h
theorem bpd_tns {k : Nat} {xs : List Nat} : bpd (k + 1) (tns xs) = true := bpd_t fun _ _ => bpd_int
theorem eq_tns {a b : List Nat} : eqD (tns a) (tns b) = some (decide (a = b)) := by
  have e : eqD (tns a) (tns b) = some (deq (tns a) (tns b)) := eqTT (k := 1) (ipd_tns (xs := a)) (ipd_tns (xs := b)) (by omega)
  rw [e]
  congr 1
  rw [Bool.eq_iff_iff, deq_iff (k := 1) (ipd_tns (xs := a)) (ipd_tns (xs := b)), decide_eq_true_eq]
  exact ⟨tns_inj a b, fun h => by rw [h]⟩
theorem eq_lns {a b : List Nat} : eqD (.lst (ns a)) (.lst (ns b)) = some (decide (a = b)) := by
  rw [eqLL (k := 1) (ipd_lns (xs := a)) (ipd_lns (xs := b)) (by omega)]
  congr 1
  rw [Bool.eq_iff_iff, deq_iff (k := 1) (ipd_lns (xs := a)) (ipd_lns (xs := b)), decide_eq_true_eq]
  exact ⟨lns_inj a b, fun h => by rw [h]⟩
theorem ne_tns {a b : List Nat} : cmpD .ne (tns a) (tns b) = some (decide (a ≠ b)) := by
  simp only [cmpD, eq_tns]; simp
theorem ne_lns {a b : List Nat} : cmpD .ne (.lst (ns a)) (.lst (ns b)) = some (decide (a ≠ b)) := by
  simp only [cmpD, eq_lns]; simp
theorem dec_int {a b : Nat} : decide ((a : Int) = (b : Int)) = decide (a = b) := by
  by_cases h : a = b
  · subst h; simp
  · have : (a : Int) ≠ (b : Int) := by omega
    simp [h, this]
theorem ne_int {a b : Nat} : cmpD .ne (.int a) (.int b) = some (decide (a ≠ b)) := by
  simp only [cmpD, eqII, dec_int]
  simp
theorem eq_int {a b : Nat} : cmpD .eq (.int a) (.int b) = some (decide (a = b)) := by
  simp only [cmpD, eqII, dec_int]
end Lt.Mt

namespace Lt.Mt
open PySem

/-! ### houses as plain data -/
structure Fd where
  vals : List Str
  eyes : List Nat
  tab : List Nat
abbrev Hs := List Fd
def encF (f : Fd) : D := .tup [.tup (f.vals.map .str), tns f.eyes, tns f.tab]
def encH (h : Hs) : D := .tup (h.map encF)
def szs (h : Hs) (p : Nat) : Nat := match h[p]? with
  | some f => f.vals.length
  | none => 0
def prodL (l : List Nat) : Nat := l.foldl (· * ·) 1
structure FdOk (h : Hs) (f : Fd) : Prop where
  v0 : f.vals ≠ []
  v5 : f.vals.length ≤ 5
  vn : f.vals.Nodup
  vm : ∀ v ∈ f.vals, isNm v = true
  er : f.eyes.Pairwise (· < ·)
  el : f.eyes.length ≤ 8
  eh : ∀ e ∈ f.eyes, e < h.length
  tv : ∀ t ∈ f.tab, t < f.vals.length
  tl : f.tab.length = prodL (f.eyes.map (szs h))
  t60 : f.tab.length ≤ 60
structure HsOk (h : Hs) : Prop where
  l8 : h.length ≤ 8
  fd : ∀ f ∈ h, FdOk h f
theorem idx_h {h : Hs} {i : Nat} {f : Fd} {ts : Tin} (e : h[i]? = some f) : idxD ts (encH h) (.int (i : Int)) = some (encF f) := idx_t e
theorem fv {f : Fd} {ts : Tin} : idxD ts (encF f) (.int 0) = some (.tup (f.vals.map .str)) := rfl
theorem fe {f : Fd} {ts : Tin} : idxD ts (encF f) (.int 1) = some (tns f.eyes) := rfl
theorem ft {f : Fd} {ts : Tin} : idxD ts (encF f) (.int 2) = some (tns f.tab) := rfl
theorem at_lt {α : Type} {l : List α} {i : Nat} (h : i < l.length) : ∃ a, l[i]? = some a := ⟨l[i], List.getElem?_eq_getElem h⟩
theorem len_l {l : List D} : biD .len [.lst l] = some (.p (.int (l.length : Nat))) := rfl
theorem len_t {l : List D} : biD .len [.tup l] = some (.p (.int (l.length : Nat))) := rfl
theorem len_tm {α : Type} {enc : α → D} {l : List α} : biD .len [.tup (l.map enc)] = some (.p (.int (l.length : Nat))) := by rw [len_t, List.length_map]
theorem len_lm {α : Type} {enc : α → D} {l : List α} : biD .len [.lst (l.map enc)] = some (.p (.int (l.length : Nat))) := by rw [len_l, List.length_map]
theorem len_h {h : Hs} : biD .len [encH h] = some (.p (.int (h.length : Nat))) := len_tm
theorem len_n {l : List Nat} : biD .len [tns l] = some (.p (.int (l.length : Nat))) := len_tm
theorem clean_map {α : Type} {enc : α → D} {l : List α} (h : ∀ a, (enc a).nl = true) : D.nls (l.map enc) = true := nls_all fun x hx => by obtain ⟨y, _, rfl⟩ := List.mem_map.mp hx; exact h y
theorem cl_ns {l : List Nat} : D.nls (ns l) = true := clean_map fun _ => rfl
theorem cl_tns {l : List Nat} : (tns l).nl = true := cl_ns
theorem cl_int {l : Nat} : (D.int l).nl = true := rfl

/-! ### sizes_of, multiplied, all_rows -/
theorem f_sizes {l : Nat} {h : Hs} {ps : List Nat} {ts : Tin} {d : D} (hd : d = tns ps ∨ d = .lst (ns ps)) (hp : ∀ p ∈ ps, p < h.length) : FL (l + 1) 7 [encH h, d] ts = some (.o1 (ns (ps.map (szs h))), ts) := by
  have e : seqD d = some (ps.map fun (n : Nat) => D.int (n : Int)) := by rcases hd with rfl | rfl <;> rfl
  have e2 : ns (ps.map (szs h)) = ps.map fun p => D.int (szs h p : Nat) := by simp [ns]
  rw [e2]
  refine FL_rt rfl rfl (bx_rt (bx_ret (bs_lc (l := ps) (enc := fun (n : Nat) => .int (n : Int)) _ (bs_sq (bs_var rfl) e) fun a ha => ?_) (clean_map fun _ => rfl)))
  obtain ⟨f, hf⟩ := at_lt (hp a ha)
  refine ⟨_, _, rfl, bs_bi (bs_cn (bs_idx (bs_idx (bs_var rfl) (bs_var rfl) (idx_h hf)) bs_glb fv) bs_nl) len_tm, ?_⟩
  show D.int _ = _
  simp [szs, hf]
theorem smI {n : Nat} (h : n ≤ 1000000) : smallI (n : Int) = true := by
  simp only [smallI, Bool.and_eq_true, decide_eq_true_eq]; omega
theorem mul_n {a b : Nat} (h : b ≤ 1000000) : mulD (.int (a : Int)) (.int (b : Int)) = some (.p (.int ((a * b : Nat) : Int))) := by
  simp only [mulD, smI h, Bool.or_true, if_true]
  simp
theorem f_mult {l : Nat} {xs : List Nat} {ts : Tin} (h : ∀ x ∈ xs, x ≤ 1000000) : FL (l + 1) 5 [.lst (ns xs)] ts = some (.p (.int (prodL xs : Nat)), ts) := by
  obtain ⟨ρ', e1, x, e2⟩ := for_rel (xs := xs) (enc := fun (n : Nat) => .int (n : Int)) (f := turn (FL l) (.one 2) (.seq (.asg 1 false (.mul (.var 1) (.var 2))) .nil)) (step := (· * ·)) (s := 1) (ts := ts)
    (Rel := fun s ρ => ∃ x, ρ = [some (.p (.lst (ns xs))), some (.p (.int (s : Nat))), x]) (ρ := [some (.p (.lst (ns xs))), some (.p (.int (1 : Nat))), none]) ⟨_, rfl⟩
    (by
      rintro a ha s ρ ⟨x, rfl⟩
      exact ⟨_, bturn rfl (bx_seq (bx_asg (bs_mul (bs_var rfl) (bs_var rfl) (mul_n (h a ha))) rfl) bx_nil), _, rfl⟩)
  subst e2
  exact FL_rt rfl rfl (bx_seq (bx_asg bs_int rfl) (bx_seq (bx_for (bs_sq (bs_var rfl) rfl) e1) (bx_rt (bx_ret (bs_var rfl) rfl))))
end Lt.Mt

namespace Lt.Mt
open PySem
section
variable {F : FT} {ρ : Env} {ts ts1 : Tin} {it jt elt : Tm} {own : List Nat} {i j : Nat}
theorem comp_ex {α : Type} {enc : α → D} {f : D → Ev (Option R)} {g : α → D} : ∀ {l : List α}, (∀ a ∈ l, ∃ r, f (enc a) ts = some (some r, ts) ∧ r.fz = g a) → ∃ rs, compL f (l.map enc) ts = some (rs, ts) ∧ rs.map R.fz = l.map g
  | [], _ => ⟨[], rfl, rfl⟩
  | a :: l, h => by
    obtain ⟨rs, e1, e2⟩ := comp_ex (l := l) fun b hb => h b (List.mem_cons_of_mem a hb)
    obtain ⟨r, e3, e4⟩ := h a (by simp)
    exact ⟨r :: rs, by simp only [List.map_cons, compL, e3, e1], by simp [e2, e4]⟩
theorem lc2_cons {f : D → D → Ev R} {g : D → Ev (List D)} {x : D} {xs ys : List D} {rs rs2 : List R} {ts ts1 ts2 ts3 : Tin} (hg : g x ts = some (ys, ts1)) (hc : compL (fun y ts => match f x y ts with
        | some (r, ts') => some (some r, ts')
        | none => none) ys ts1 = some (rs, ts2)) (h : lc2L f g xs ts2 = some (rs2, ts3)) : lc2L f g (x :: xs) ts = some (rs ++ rs2, ts3) := by
  simp only [lc2L, hg]
  split
  · rename_i e; exact nomatch hc.symm.trans e
  · rename_i e
    have e2 := hc.symm.trans e
    cases e2
    simp only [h]
theorem bs_lc2 {α β : Type} {e1 : α → D} {e2 : β → D} {l : List α} {m : α → List β} (g : α → β → D) (hi : evI F it ρ ts = some (l.map e1, ts1))
    (hj : ∀ a ∈ l, evI F jt (setE (wipeE ρ own) i (some (.p (e1 a)))) ts1 = some ((m a).map e2, ts1))
    (he : ∀ a ∈ l, ∀ b ∈ m a, ∃ r, ev F elt (setE (setE (wipeE ρ own) i (some (.p (e1 a)))) j (some (.p (e2 b)))) ts1 = some (r, ts1) ∧ r.fz = g a b)
    (hl : (l.flatMap fun a => (m a).map (g a)).length ≤ LIM) : ev F (.lc2 own i it j jt elt) ρ ts = some (.o1 (l.flatMap fun a => (m a).map (g a)), ts1) := by
  have key : ∀ l' : List α, (∀ a ∈ l', a ∈ l) → ∃ rs, lc2L (fun x y ts => ev F elt (setE (setE (wipeE ρ own) i (some (.p x))) j (some (.p y))) ts) (fun x ts => evI F jt (setE (wipeE ρ own) i (some (.p x))) ts) (l'.map e1) ts1 = some (rs, ts1) ∧ rs.map R.fz = l'.flatMap fun a => (m a).map (g a) := by
    intro l'
    induction l' with
    | nil => exact fun _ => ⟨[], rfl, rfl⟩
    | cons a l' ih =>
      intro hm
      obtain ⟨rs, q1, q2⟩ := ih fun w hw => hm w (by simp [hw])
      have ha := hm a (by simp)
      obtain ⟨rs1, q3, q4⟩ := comp_ex (f := fun y ts => match ev F elt (setE (setE (wipeE ρ own) i (some (.p (e1 a)))) j (some (.p y))) ts with
        | some (r, ts') => some (some r, ts')
        | none => none) (enc := e2) (g := g a) (ts := ts1) (l := m a) (fun b hb => by
          obtain ⟨r, z1, z2⟩ := he a ha b hb
          exact ⟨r, by simp only [z1], z2⟩)
      refine ⟨rs1 ++ rs, ?_, by simp [q2, q4]⟩
      exact lc2_cons (hj a ha) q3 q1
  obtain ⟨rs, q1, q2⟩ := key l fun _ z => z
  have hn : rs.length ≤ LIM := by rw [← q2, List.length_map] at hl; exact hl
  simp only [ev, hi, q1, if_pos hn, q2]
end

/-! ### all_rows -/
def growR (fd : List (List Nat)) (s : Nat) : List (List Nat) := fd.flatMap fun own => (List.range s).map fun n => own ++ [n]
def allR (ss : List Nat) : List (List Nat) := ss.foldl growR [[]]
theorem growR_len {fd : List (List Nat)} {s : Nat} : (growR fd s).length = fd.length * s := by
  induction fd with
  | nil => simp [growR]
  | cons a fd ih =>
    have : growR (a :: fd) s = ((List.range s).map fun n => a ++ [n]) ++ growR fd s := by simp [growR]
    rw [this, List.length_append, ih]
    simp [Nat.add_mul, Nat.add_comm]
theorem ns_app {a b : List Nat} : ns (a ++ b) = ns a ++ ns b := by simp [ns]
theorem allR_loop {F : FT} {ts : Tin} {x0 : Option R} : ∀ {ss : List Nat} {fd : List (List Nat)} {a b c : Option R}, (∀ s ∈ ss, s ≤ 5) → fd.length * 5 ^ ss.length ≤ 1000000 → (∀ r ∈ fd, r.length + ss.length ≤ 1000) →
    ∃ a' b' c', forL (turn F (.one 2) (.seq (.asg 1 true (.brw (.lc2 [3, 4] 3 (.sq (.var 1)) 4 (.rng (.var 2)) (.tup (.cs (.var 3) (.cn (.var 4) .nl)))))) .nil)) (ss.map fun (n : Nat) => D.int (n : Int)) [x0, some (.o1 (fd.map tns)), a, b, c] ts = some (.nx [x0, some (.o1 ((ss.foldl growR fd).map tns)), a', b', c'], ts)
  | [], fd, a, b, c, _, _, _ => ⟨a, b, c, rfl⟩
  | s :: ss, fd, a, b, c, h5, hl, hr => by
    have hs := h5 s (by simp)
    have hlen : (growR fd s).length * 5 ^ ss.length ≤ 1000000 := by
      rw [growR_len]
      refine Nat.le_trans ?_ hl
      rw [List.length_cons, Nat.pow_succ]
      have e1 : fd.length * s * 5 ^ ss.length = fd.length * (5 ^ ss.length * s) := by rw [Nat.mul_assoc, Nat.mul_comm s]
      rw [e1]
      exact Nat.mul_le_mul_left _ (Nat.mul_le_mul_left _ hs)
    have h1 : (growR fd s).length ≤ 1000000 := Nat.le_trans (Nat.le_mul_of_pos_right _ (Nat.pow_pos (by omega))) hlen
    obtain ⟨a', b', c', ih⟩ := allR_loop (F := F) (ts := ts) (x0 := x0) (ss := ss) (fd := growR fd s) (a := some (.p (.int s))) (b := b) (c := c) (fun z hz => h5 z (by simp [hz])) hlen (by
      intro r hr'
      simp only [growR, List.mem_flatMap, List.mem_map] at hr'
      obtain ⟨o, ho, n, _, rfl⟩ := hr'
      have := hr o ho
      simp only [List.length_append, List.length_cons, List.length_nil] at this ⊢
      omega)
    refine ⟨a', b', c', ?_⟩
    have e : (fd.flatMap fun o => (List.range s).map fun n => tns (o ++ [n])) = (growR fd s).map tns := by
      simp [growR, List.map_flatMap, Function.comp_def]
    have st : turn F (.one 2) (.seq (.asg 1 true (.brw (.lc2 [3, 4] 3 (.sq (.var 1)) 4 (.rng (.var 2)) (.tup (.cs (.var 3) (.cn (.var 4) .nl)))))) .nil) [x0, some (.o1 (fd.map tns)), a, b, c] (.int (s : Nat)) ts = some (.nx [x0, some (.o1 ((growR fd s).map tns)), some (.p (.int s)), b, c], ts) := by
      refine bturn rfl (bx_seq (bx_asg (bs_brw (r := .o1 ((growR fd s).map tns)) ?_ (clean_map fun _ => cl_tns)) rfl) bx_nil)
      rw [← e]
      refine bs_lc2 (l := fd) (e1 := tns) (m := fun _ => List.range s) (e2 := fun (n : Nat) => .int (n : Int)) (fun o n => tns (o ++ [n])) (bs_sq (bs_var rfl) rfl) (fun o ho => bs_rng (bs_var rfl) (rngD_nat (by omega))) (fun o ho n hn => ⟨_, bs_tup (bs_cs (bs_var rfl) rfl (bs_cn (bs_var rfl) bs_nl)) ?_, ?_⟩) ?_
      · have := hr o ho
        show (ns o ++ [D.int (n : Int)]).length ≤ LIM
        simp [LIM]; omega
      · show D.tup (ns o ++ [D.int (n : Int)]) = tns (o ++ [n])
        rw [tns, ns_app]; rfl
      · rw [e, List.length_map]; exact h1
    show forL _ (D.int (s : Int) :: ss.map _) _ _ = _
    simp only [forL, st]
    exact ih
theorem f_allrows {l : Nat} {ss : List Nat} {ts : Tin} (h5 : ∀ s ∈ ss, s ≤ 5) (h8 : ss.length ≤ 8) : FL (l + 1) 4 [.lst (ns ss)] ts = some (.o1 ((allR ss).map tns), ts) := by
  have hp : 5 ^ ss.length ≤ 5 ^ 8 := Nat.pow_le_pow_right (by omega) h8
  obtain ⟨a', b', c', e⟩ := allR_loop (F := FL l) (ts := ts) (x0 := some (.p (.lst (ns ss)))) (ss := ss) (fd := [[]]) (a := none) (b := none) (c := none) h5 (by simp; omega) (by simp; omega)
  exact FL_rt rfl rfl (bx_seq (bx_asg (bs_lst (bs_cn (bs_tup bs_nl (by decide)) bs_nl) (by decide)) rfl) (bx_seq (bx_for (bs_sq (bs_var rfl) rfl) e) (bx_rt (bx_retv rfl (clean_map fun _ => cl_tns)))))
end Lt.Mt

namespace Lt.Mt
open PySem
theorem le_n {a b : Nat} : cmpD .le (.int (a : Int)) (.int (b : Int)) = some (decide (a ≤ b)) := by
  show some (decide ((a : Int) ≤ (b : Int))) = _
  simp
theorem le_0 {b : Nat} : cmpD .le (.int 0) (.int (b : Int)) = some true := by
  show some (decide ((0 : Int) ≤ (b : Int))) = _
  simp
theorem lt_n {a b : Nat} : cmpD .lt (.int (a : Int)) (.int (b : Int)) = some (decide (a < b)) := by
  show some (decide ((a : Int) < (b : Int))) = _
  simp
theorem lt_nT {a b : Nat} (h : a < b) : cmpD .lt (.int (a : Int)) (.int (b : Int)) = some true := by rw [lt_n]; simp [h]
theorem gt_nF {a b : Nat} (h : a ≤ b) : cmpD .gt (.int (a : Int)) (.int (b : Int)) = some false := by
  show some (decide ((b : Int) < (a : Int))) = _
  simp; omega
section
variable {F : FT} {ρ : Env} {ts ts1 ts2 : Tin} {a b c : Tm} {x y z : R}
/-- 0 <= n < m -/
theorem bs_in {n m : Nat} (h1 : ev F a ρ ts = some (.p (.int 0), ts)) (h2 : ev F b ρ ts = some (.p (.int (n : Int)), ts)) (h3 : ev F c ρ ts = some (.p (.int (m : Int)), ts)) (h : n < m) : ev F (.chn .le .lt a b c) ρ ts = some (.p (.bl true), ts) :=
  bs_chn (k := true) (m := true) h1 h2 le_0 fun _ => ⟨_, h3, lt_nT h⟩
end

/-! ### is_value, the checks -/
theorem f_isval {l : Nat} {h : Hs} {j n : Nat} {f : Fd} {ts : Tin} (hf : h[j]? = some f) (hn : n < f.vals.length) : FL (l + 2) 9 [encH h, .int (j : Int), .int (n : Int)] ts = some (.p (.bl true), ts) :=
  FL_rt rfl rfl (bx_rt (bx_ret (bs_and (k := true) (bs_fn (bs_cn (bs_var rfl) bs_nl) f_isnum rfl) fun _ => bs_in bs_int (bs_var rfl) (bs_bi (bs_cn (bs_idx (bs_idx (bs_var rfl) (bs_var rfl) (idx_h hf)) bs_glb fv) bs_nl) len_tm) hn) rfl))
theorem f_chkpl {l : Nat} {h : Hs} {j : Nat} {ts : Tin} (hj : j < h.length) : FL (l + 2) 15 [encH h, .int (j : Int)] ts = some (.p .non, ts) :=
  FL_nx rfl rfl (bx_seq (bx_ifF (bs_orF (bs_not (k := true) (bs_fn (bs_cn (bs_var rfl) bs_nl) f_isnum rfl)) (bs_not (k := true) (bs_in bs_int (bs_var rfl) (bs_bi (bs_cn (bs_var rfl) bs_nl) len_h) hj))) bx_nil) bx_nil)
theorem f_chkval {l : Nat} {h : Hs} {j n : Nat} {f : Fd} {ts : Tin} (hf : h[j]? = some f) (hn : n < f.vals.length) : FL (l + 3) 16 [encH h, .int (j : Int), .int (n : Int)] ts = some (.p .non, ts) :=
  FL_nx rfl rfl (bx_seq (bx_ifF (bs_not (k := true) (bs_fn (bs_cn (bs_var rfl) (bs_cn (bs_var rfl) (bs_cn (bs_var rfl) bs_nl))) (f_isval hf hn) rfl)) bx_nil) bx_nil)

/-! ### table_at -/
def hor (l : List (Nat × Nat)) : Nat := l.foldl (fun n p => n * p.2 + p.1) 0
def tabAt (h : Hs) (j : Nat) (row : List Nat) : Nat := match h[j]? with
  | some f => f.tab.getD (hor (row.zip (f.eyes.map (szs h)))) 0
  | none => 0
theorem szs5 {h : Hs} (ok : HsOk h) (p : Nat) : szs h p ≤ 5 := by
  unfold szs
  split
  · rename_i f e; exact (ok.fd f (List.mem_of_getElem? e)).v5
  · omega
theorem zip_nn {a b : List Nat} : zipD (ns a) (ns b) = (a.zip b).map fun p => .tup [.int (p.1 : Nat), .int (p.2 : Nat)] := zip_map
theorem seq_tl {d : D} {l : List Nat} (h : d = tns l ∨ d = .lst (ns l)) : seqD d = some (ns l) := by rcases h with rfl | rfl <;> rfl
theorem getD_at {α : Type} {l : List α} {i : Nat} {d : α} (h : i < l.length) : l[i]? = some (l.getD i d) := by
  rw [List.getElem?_eq_getElem h]; simp [h]
theorem f_tabat {l : Nat} {h : Hs} {j : Nat} {f : Fd} {row : List Nat} {d : D} {ts : Tin} (ok : HsOk h) (hf : h[j]? = some f) (hd : d = tns row ∨ d = .lst (ns row)) (hb : hor (row.zip (f.eyes.map (szs h))) < f.tab.length) :
    FL (l + 2) 17 [encH h, .int (j : Int), d] ts = some (.p (.int (tabAt h j row : Nat)), ts) := by
  have fo := ok.fd f (List.mem_of_getElem? hf)
  obtain ⟨ρ', e1, x, y, e2⟩ := for_rel (xs := row.zip (f.eyes.map (szs h))) (enc := fun p => .tup [.int (p.1 : Nat), .int (p.2 : Nat)]) (f := turn (FL (l + 1)) (.many [4, 5]) (.seq (.asg 3 false (.add (.mul (.var 3) (.var 5)) (.var 4))) .nil)) (step := fun n p => n * p.2 + p.1) (s := 0) (ts := ts)
    (Rel := fun s ρ => ∃ x y, ρ = [some (.p (encH h)), some (.p (.int j)), some (.p d), some (.p (.int (s : Nat))), x, y]) (ρ := [some (.p (encH h)), some (.p (.int j)), some (.p d), some (.p (.int (0 : Nat))), none, none]) ⟨_, _, rfl⟩
    (by
      rintro a ha s ρ ⟨x, y, rfl⟩
      have h5 : a.2 ≤ 1000000 := by
        have := (List.of_mem_zip (show (a.1, a.2) ∈ _ from ha)).2
        obtain ⟨p, _, hp⟩ := List.mem_map.mp this
        have := szs5 ok p
        omega
      refine ⟨_, bturn rfl (bx_seq (bx_asg (bs_add (bs_mul (bs_var rfl) (bs_var rfl) (mul_n h5)) (bs_var rfl) rfl) rfl) bx_nil), some (.p (.int (a.1 : Nat))), some (.p (.int (a.2 : Nat))), rfl⟩)
  subst e2
  rw [← zip_nn] at e1
  have e3 : f.tab[hor (row.zip (f.eyes.map (szs h)))]? = some (tabAt h j row) := by
    rw [getD_at hb (d := 0)]; simp [tabAt, hf]
  refine FL_rt rfl rfl (bx_seq (bx_asg bs_int rfl) (bx_seq (bx_for (bs_zp (bs_var rfl) (bs_fn (bs_cn (bs_var rfl) (bs_cn (bs_idx (bs_idx (bs_var rfl) (bs_var rfl) (idx_h hf)) bs_glb fe) bs_nl)) (f_sizes (.inl rfl) fo.eh) cl_ns) (seq_tl hd) rfl) e1) (bx_rt (bx_ret (bs_idx (bs_idx (bs_idx (bs_var rfl) (bs_var rfl) (idx_h hf)) bs_glb ft) (bs_var rfl) (idx_n e3)) rfl))))
end Lt.Mt

namespace Lt.Mt
open PySem
theorem f_rowsof {l : Nat} {h : Hs} {j : Nat} {f : Fd} {ts : Tin} (ok : HsOk h) (hf : h[j]? = some f) : FL (l + 3) 18 [encH h, .int (j : Int)] ts = some (.o1 ((allR (f.eyes.map (szs h))).map tns), ts) := by
  have fo := ok.fd f (List.mem_of_getElem? hf)
  have hj : j < h.length := (List.getElem?_eq_some_iff.mp hf).1
  have h5 : ∀ s ∈ f.eyes.map (szs h), s ≤ 5 := fun s hs => by obtain ⟨p, _, rfl⟩ := List.mem_map.mp hs; exact szs5 ok p
  exact FL_rt rfl rfl (bx_seq (bx_exp (bs_fn (bs_cn (bs_var rfl) (bs_cn (bs_var rfl) bs_nl)) (f_chkpl hj) rfl)) (bx_rt (bx_ret (bs_fn (bs_cn (bs_fn (bs_cn (bs_var rfl) (bs_cn (bs_idx (bs_idx (bs_var rfl) (bs_var rfl) (idx_h hf)) bs_glb fe) bs_nl)) (f_sizes (.inl rfl) fo.eh) cl_ns) bs_nl) (f_allrows h5 (by rw [List.length_map]; exact fo.el)) (clean_map fun _ => cl_tns)) (clean_map fun _ => cl_tns))))

/-! ### is_house, checked -/
theorem ne_len {a b : Nat} (h : a = b) : cmpD .ne (.int (a : Int)) (.int (b : Int)) = some false := by rw [ne_int]; simp [h]
theorem eq_len {a b : Nat} (h : a = b) : cmpD .eq (.int (a : Int)) (.int (b : Int)) = some true := by rw [eq_int]; simp [h]
theorem asStrs_map : ∀ {l : List Str}, asStrs (l.map .str) = some l
  | [] => rfl
  | x :: l => by simp [asStrs, asStrs_map (l := l)]
theorem lset_str {l : List Str} (h : l.Nodup) (h2 : l.length < 1000) : lsetD (.tup (l.map .str)) = some (.p (.int (l.length : Nat))) := by
  simp only [lsetD, asStrs_map]
  rw [if_pos ⟨h, h2⟩]
theorem f_shape {l : Nat} {h : Hs} {f : Fd} {ts : Tin} (fo : FdOk h f) : FL (l + 2) 6 [encF f, .int (h.length : Nat)] ts = some (.p (.bl true), ts) := by
  have fT : ∀ {k m : Bool}, k = false → m = false → True := fun _ _ => trivial
  refine FL_rt rfl rfl (bx_seq (bx_ifF (bs_orF (bs_not (k := true) (bs_isi (bs_var rfl) rfl)) (bs_orF (bs_cmp (k := false) (bs_bi (bs_cn (bs_var rfl) bs_nl) rfl) bs_glb rfl) (bs_not (k := true) (bs_allT (l := [.tup (f.vals.map .str), tns f.eyes, tns f.tab]) (enc := fun x => x) (bs_sq (bs_var rfl) rfl) fun a ha => ⟨_, rfl, (bs_isi (bs_var rfl) ?_)⟩)))) bx_nil)
    (bx_seq (bx_unp (bs_var rfl) rfl)
    (bx_seq (bx_ifF (bs_orF (bs_cmp (o := .eq) (k := false) (bs_bi (bs_cn (bs_var rfl) bs_nl) len_tm) bs_int ?_) (bs_orF (bs_not (k := true) (bs_allT (l := f.vals) (enc := .str) (bs_sq (bs_var rfl) rfl) fun a ha => ⟨_, rfl, (bs_fn (bs_cn (bs_var rfl) bs_nl) (f_isname (fo.vm a ha)) rfl)⟩)) (bs_cmp (k := false) (bs_lset (bs_var rfl) (lset_str fo.vn (Nat.lt_of_le_of_lt fo.v5 (by omega)))) (bs_bi (bs_cn (bs_var rfl) bs_nl) len_tm) (ne_len rfl)))) bx_nil)
    (bx_seq (bx_ifF (bs_orF (bs_not (k := true) (bs_allT (l := f.eyes ++ f.tab) (enc := fun (n : Nat) => .int (n : Int)) (bs_sq (bs_add (r := .p (.tup (ns (f.eyes ++ f.tab)))) (bs_var rfl) (bs_var rfl) ?_) rfl) fun a ha => ⟨_, rfl, (bs_fn (bs_cn (bs_var rfl) bs_nl) f_isnum rfl)⟩)) (bs_not (k := true) (bs_fn (bs_cn (bs_var rfl) bs_nl) (f_rises (Nat.le_trans fo.el (by omega)) fo.er) rfl))) bx_nil)
    (bx_rt (bx_ret (bs_and (k := true) (m := true) (bs_allT (l := f.eyes) (enc := fun (n : Nat) => .int (n : Int)) (bs_sq (bs_var rfl) rfl) fun a ha => ⟨_, rfl, (bs_in bs_int (bs_var rfl) (bs_var rfl) (fo.eh a ha))⟩) fun _ => (bs_allT (l := f.tab) (enc := fun (n : Nat) => .int (n : Int)) (bs_sq (bs_var rfl) rfl) fun a ha => ⟨_, rfl, (bs_in bs_int (bs_var rfl) (bs_bi (bs_cn (bs_var rfl) bs_nl) len_tm) (fo.tv a ha))⟩)) rfl))))))
  · simp only [List.mem_cons, List.not_mem_nil, or_false] at ha
    rcases ha with rfl | rfl | rfl <;> rfl
  · have : f.vals.length ≠ 0 := fun e => fo.v0 (List.length_eq_zero_iff.mp e)
    show cmpD .eq (.int (f.vals.length : Nat)) (.int ((0 : Nat) : Int)) = _
    rw [eq_int]; simp [fo.v0]
  · have h1 := fo.el
    have h2 := fo.t60
    show addD (.tup (ns f.eyes)) (.tup (ns f.tab)) = _
    rw [addD, if_pos (show _ ≤ LIM by simp [LIM]; omega), ns_app]
theorem f_ishouse {l : Nat} {h : Hs} {ts : Tin} (ok : HsOk h) : FL (l + 3) 8 [encH h] ts = some (.p (.bl true), ts) := by
  refine FL_rt rfl rfl (bx_seq (bx_ifF (bs_orF (bs_not (k := true) (bs_isi (bs_var rfl) rfl)) (bs_not (k := true) (bs_allT (l := h) (enc := encF) (bs_sq (bs_var rfl) rfl) fun a ha => ⟨_, rfl, (bs_fn (bs_cn (bs_var rfl) (bs_cn (bs_bi (bs_cn (bs_var rfl) bs_nl) len_h) bs_nl)) (f_shape (ok.fd a ha)) rfl)⟩))) bx_nil)
    (bx_rt (bx_ret (bs_allT (l := h) (enc := encF) (bs_sq (bs_var rfl) rfl) fun a ha => ⟨_, rfl, (bs_cmp (bs_bi (bs_cn (bs_idx (bs_var rfl) bs_glb ft) bs_nl) len_n) (bs_fn (bs_cn (bs_fn (bs_cn (bs_var rfl) (bs_cn (bs_idx (bs_var rfl) bs_glb fe) bs_nl)) (f_sizes (.inl rfl) (ok.fd a ha).eh) cl_ns) bs_nl) (f_mult ?_) rfl) (eq_len (ok.fd a ha).tl))⟩) rfl)))
  intro x hx
  obtain ⟨p, _, rfl⟩ := List.mem_map.mp hx
  have := szs5 ok p
  omega
theorem bs_anyF {F : FT} {ρ : Env} {ts ts1 : Tin} {it elt : Tm} {own : List Nat} {tg : Tg} {α : Type} {enc : α → D} {l : List α} (hi : evI F it ρ ts = some (l.map enc, ts1)) (h : ∀ a ∈ l, ∃ ρ1, setTg (wipeE ρ own) tg (enc a) = some ρ1 ∧ ev F elt ρ1 ts1 = some (.p (.bl false), ts1)) : ev F (.bi .any_ (.cn (.lc own tg it (.bl true) elt false) .nl)) ρ ts = some (.p (.bl false), ts1) := by
  have e := bs_any (fun _ => false) hi h
  have e2 : (l.any fun _ => false) = false := by simp
  rw [e2] at e
  exact e
theorem nls_cons {d : D} {ds : List D} (h : d.nl = true) (h2 : D.nls ds = true) : D.nls (d :: ds) = true := by simp [D.nls, h, h2]
theorem cl_str {l : List Str} : (D.tup (l.map .str)).nl = true := clean_map fun _ => rfl
theorem cl_f {f : Fd} : (encF f).nl = true := nls_cons cl_str (nls_cons cl_tns (nls_cons cl_tns rfl))
theorem cl_h {h : Hs} : (encH h).nl = true := clean_map fun _ => cl_f
theorem f_checked {l : Nat} {h : Hs} {ts : Tin} (ok : HsOk h) : FL (l + 4) 21 [encH h] ts = some (.p (encH h), ts) := by
  exact FL_rt rfl rfl (bx_seq (bx_ifF (bs_orF (bs_not (k := true) (bs_fn (bs_cn (bs_var rfl) bs_nl) (f_ishouse ok) rfl)) (bs_cmp (bs_bi (bs_cn (bs_var rfl) bs_nl) len_h) bs_glb (gt_nF (b := 8) ok.l8))) bx_nil)
    (bx_seq (bx_ifF (bs_anyF (l := h) (enc := encF) (bs_sq (bs_var rfl) rfl) fun a ha => ⟨_, rfl, bs_orF (bs_cmp (bs_bi (bs_cn (bs_idx (bs_var rfl) bs_glb fv) bs_nl) len_tm) bs_glb (gt_nF (b := 5) (ok.fd a ha).v5)) (bs_cmp (bs_bi (bs_cn (bs_idx (bs_var rfl) bs_glb ft) bs_nl) len_n) bs_glb (gt_nF (b := 60) (ok.fd a ha).t60))⟩) bx_nil)
      (bx_rt (bx_ret (bs_var rfl) cl_h))))

/-! ### tupled -/
theorem tpns {k : Nat} {l : List Nat} : (ns l).map (tp k) = ns l := by
  simp only [ns, List.map_map]
  apply List.map_congr_left
  intro a _
  cases k <;> rfl
theorem tpn {k : Nat} {l : List Nat} : tp (k + 1) (tns l) = tns l := by simp only [tns, tp, tpns]
theorem tpln {k : Nat} {l : List Nat} : tp (k + 1) (.lst (ns l)) = tns l := by simp only [tns, tp, tpns]
theorem tps {k : Nat} {l : List Str} : tp (k + 1) (.tup (l.map .str)) = .tup (l.map .str) := by
  simp only [tp, List.map_map, D.tup.injEq]
  apply List.map_congr_left
  intro a _
  cases k <;> rfl
theorem pln {k : Nat} {l : List Nat} : pl (k + 1) (tns l) = true := by
  simp only [tns, ns, pl, List.all_map, List.all_eq_true]
  intro a _; cases k <;> rfl
theorem plln {k : Nat} {l : List Nat} : pl (k + 1) (.lst (ns l)) = true := by
  simp only [ns, pl, List.all_map, List.all_eq_true]
  intro a _; cases k <;> rfl
theorem pls {k : Nat} {l : List Str} : pl (k + 1) (.tup (l.map .str)) = true := by
  simp only [pl, List.all_map, List.all_eq_true]
  intro a _; cases k <;> rfl
theorem tpf {k : Nat} {f : Fd} : tp (k + 2) (encF f) = encF f := by
  simp only [encF]
  rw [tp]
  simp only [List.map_cons, List.map_nil, tpn, tps]
theorem plf {k : Nat} {f : Fd} : pl (k + 2) (encF f) = true := by
  simp only [encF]
  rw [pl]
  simp only [List.all_cons, List.all_nil, pln, pls, Bool.and_self]
theorem tph {k : Nat} {h : Hs} : tp (k + 3) (encH h) = encH h := by
  simp only [encH]
  rw [tp]
  simp only [List.map_map, D.tup.injEq]
  apply List.map_congr_left
  intro a _
  exact tpf
theorem plh {k : Nat} {h : Hs} : pl (k + 3) (encH h) = true := by
  simp only [encH]
  rw [pl]
  simp only [List.all_map, List.all_eq_true]
  intro a _
  exact plf
theorem f_tuph {l : Nat} {h : Hs} {ts : Tin} : FL (l + 4) 2 [encH h] ts = some (.p (encH h), ts) := by
  have := f_tupled (l := l) (k := 3) (d := encH h) (ts := ts) plh
  rw [tph] at this
  exact this
theorem f_tupf {l : Nat} {f : Fd} {ts : Tin} : FL (l + 3) 2 [encF f] ts = some (.p (encF f), ts) := by
  have := f_tupled (l := l) (k := 2) (d := encF f) (ts := ts) plf
  rw [tpf] at this
  exact this
end Lt.Mt

namespace Lt.Mt
open PySem

/-! ### beside -/
def shF (n : Nat) (f : Fd) : Fd := ⟨f.vals, f.eyes.map (· + n), f.tab⟩
def besH (h g : Hs) : Hs := h ++ g.map (shF h.length)
theorem besH_len {h g : Hs} : (besH h g).length = h.length + g.length := by simp [besH]
theorem besH_l {h g : Hs} {i : Nat} (hi : i < h.length) : (besH h g)[i]? = h[i]? := by simp [besH, List.getElem?_append_left hi]
theorem besH_r {h g : Hs} {i : Nat} : (besH h g)[i + h.length]? = (g[i]?).map (shF h.length) := by
  simp [besH, List.getElem?_append_right]
theorem szs_l {h g : Hs} {i : Nat} (hi : i < h.length) : szs (besH h g) i = szs h i := by simp only [szs, besH_l hi]
theorem szs_r {h g : Hs} {i : Nat} : szs (besH h g) (i + h.length) = szs g i := by
  simp only [szs, besH_r]
  cases g[i]? <;> simp [shF]
theorem besH_ok {h g : Hs} (a : HsOk h) (b : HsOk g) (l : h.length + g.length ≤ 8) : HsOk (besH h g) := by
  refine ⟨by rw [besH_len]; exact l, fun f hf => ?_⟩
  rcases List.mem_append.mp hf with hf | hf
  · have o := a.fd f hf
    refine ⟨o.v0, o.v5, o.vn, o.vm, o.er, o.el, fun e he => by have := o.eh e he; rw [besH_len]; omega, o.tv, ?_, o.t60⟩
    rw [o.tl]
    congr 1
    exact List.map_congr_left fun e he => (szs_l (o.eh e he)).symm
  · obtain ⟨f, hf2, rfl⟩ := List.mem_map.mp hf
    have o := b.fd f hf2
    refine ⟨o.v0, o.v5, o.vn, o.vm, ?_, by simp [shF]; exact o.el, ?_, o.tv, ?_, o.t60⟩
    · simp only [shF, List.pairwise_map]
      exact o.er.imp fun h => by omega
    · intro e he
      obtain ⟨e', he', rfl⟩ := List.mem_map.mp he
      have := o.eh e' he'
      rw [besH_len]; omega
    · show f.tab.length = _
      rw [o.tl]
      congr 1
      simp only [shF, List.map_map]
      exact List.map_congr_left fun e he => szs_r.symm
def lateF (n : Nat) (f : Fd) : D := .tup [.tup (f.vals.map .str), .lst (ns (f.eyes.map (· + n))), tns f.tab]
theorem f_beside {l : Nat} {h g : Hs} {ts : Tin} (a : HsOk h) (b : HsOk g) (hl : h.length + g.length ≤ 8) : FL (l + 5) 25 [encH h, encH g] ts = some (.p (encH (besH h g)), ts) := by
  have e1 : tp 3 (.lst (g.map (lateF h.length))) = .tup (g.map fun f => encF (shF h.length f)) := by
    rw [tp]
    simp only [List.map_map, D.tup.injEq]
    apply List.map_congr_left
    intro f _
    show tp 2 (lateF h.length f) = _
    rw [lateF, tp]
    simp only [List.map_cons, List.map_nil, tpn, tps, tpln]
    rfl
  have e2 : pl 3 (.lst (g.map (lateF h.length))) = true := by
    rw [pl]
    simp only [List.all_map, List.all_eq_true]
    intro f _
    show pl 2 (lateF h.length f) = true
    rw [lateF, pl]
    simp only [List.all_cons, List.all_nil, pln, pls, plln, Bool.and_self]
  have e3 := f_tupled (l := l) (k := 3) (d := .lst (g.map (lateF h.length))) (ts := ts) e2
  rw [e1] at e3
  have e4 : D.tup (h.map encF ++ ((g.map fun f => encF (shF h.length f)) ++ [])) = encH (besH h g) := by simp [encH, besH, Function.comp_def]
  have e5 := f_checked (l := l) (ts := ts) (besH_ok a b hl)
  refine FL_rt rfl rfl (bx_seq (bx_asg (bs_bi (bs_cn (bs_var rfl) bs_nl) len_h) rfl)
    (bx_seq (bx_asg (r' := .p (.lst (g.map (lateF h.length)))) (bs_lc (l := g) (enc := encF) (lateF h.length) (bs_sq (bs_var rfl) rfl) fun f hf => ⟨_, _, rfl, (bs_tup (bs_cn (bs_var rfl) (bs_cn (bs_lc (l := f.eyes) (enc := fun (n : Nat) => .int (n : Int)) (fun n => .int ((n + h.length : Nat) : Int)) (bs_sq (bs_var rfl) rfl) fun a ha => ⟨_, _, rfl, (bs_add (bs_var rfl) (bs_var rfl) rfl), rfl⟩) (bs_cn (bs_var rfl) bs_nl))) (show 3 ≤ 1000000 by omega)), ?_⟩) rfl)
    (bx_rt (bx_ret (bs_fn (bs_cn (bs_tup (bs_cs (bs_fn (bs_cn (bs_var rfl) bs_nl) f_tuph cl_h) rfl (bs_cs (bs_fn (bs_cn (bs_var rfl) bs_nl) e3 ?_) rfl bs_nl)) ?_) bs_nl) ?_ cl_h) cl_h))))
  · simp [R.fz, lateF, ns]
  · exact clean_map fun _ => cl_f
  · have := a.l8
    have := b.l8
    simp [LIM]; omega
  · show FL (l + 4) 21 [D.tup (h.map encF ++ ((g.map fun f => encF (shF h.length f)) ++ []))] ts = _
    rw [e4]
    exact e5
end Lt.Mt

namespace Lt.Mt
open PySem

/-! ### slices -/
theorem cut_t {α : Type} {xs : List α} {n : Nat} : cutL xs none (some (n : Int)) = xs.take n := by
  simp only [cutL, HT.sIx_none, HT.sIx_nat, Nat.sub_zero, List.drop_zero]
  by_cases h : n ≤ xs.length
  · rw [Nat.min_eq_left h]
  · rw [Nat.min_eq_right (by omega), List.take_length, List.take_of_length_le (by omega)]
theorem cut_d {α : Type} {xs : List α} {n : Nat} : cutL xs (some (n : Int)) none = xs.drop n := by
  simp only [cutL, HT.sIx_none, HT.sIx_nat]
  rw [List.take_of_length_le (by rw [List.length_drop]; omega)]
  by_cases h : n ≤ xs.length
  · rw [Nat.min_eq_left h]
  · rw [Nat.min_eq_right (by omega), List.drop_length, List.drop_eq_nil_of_le (by omega)]
theorem slc_t {xs : List D} {n : Nat} : slcD (.tup xs) none (some (n : Int)) = some (.p (.tup (xs.take n))) := by simp only [slcD, cut_t]
theorem slc_d {xs : List D} {n : Nat} : slcD (.tup xs) (some (n : Int)) none = some (.p (.tup (xs.drop n))) := by simp only [slcD, cut_d]
theorem slc_t0 {xs : List D} : slcD (.tup xs) none (some 0) = some (.p (.tup [])) := slc_t (n := 0)
theorem slc_d1 {xs : List D} : slcD (.tup xs) (some 1) none = some (.p (.tup (xs.drop 1))) := slc_d (n := 1)

/-! ### renamed: the first value of the first field -/
def renF (f : Fd) : Fd := ⟨"zzz" :: f.vals.tail, f.eyes, f.tab⟩
def renH : Hs → Hs
  | [] => []
  | f :: r => renF f :: r
theorem f_putin {l : Nat} {f g : Fd} {r : Hs} {ts : Tin} (ok : HsOk (g :: r)) : FL (l + 5) 22 [encH (f :: r), .int 0, encF g] ts = some (.p (encH (g :: r)), ts) := by
  have := ok.l8
  refine FL_rt rfl rfl (bx_seq (bx_asg (bs_fn (bs_cn (bs_var rfl) bs_nl) f_tuph cl_h) rfl)
    (bx_rt (bx_ret (bs_fn (bs_cn (bs_tup (bs_cs (bs_slc (bs_var rfl) bs_nlO (bs_sm (bs_var rfl)) slc_t0) rfl (bs_cn (bs_fn (bs_cn (bs_var rfl) bs_nl) f_tupf cl_f) (bs_cs (bs_slc (bs_var rfl) (bs_sm (bs_add (bs_var rfl) bs_int rfl)) bs_nlO slc_d1) rfl bs_nl))) ?_) bs_nl) ?_ cl_h) cl_h)))
  · simp [LIM] at this ⊢; omega
  · have e : D.tup ([] ++ encF g :: ((r.map encF) ++ [])) = encH (g :: r) := by simp [encH]
    show FL (l + 4) 21 [D.tup ([] ++ encF g :: ((r.map encF) ++ []))] ts = _
    rw [e]
    exact f_checked ok
theorem f_renamed {l : Nat} {f : Fd} {r : Hs} {ts : Tin} (ok : HsOk (f :: r)) (ok2 : HsOk (renH (f :: r))) : FL (l + 6) 26 [encH (f :: r), .int 0, .int 0, .str "zzz"] ts = some (.p (encH (renH (f :: r))), ts) := by
  have fo := ok.fd f (by simp)
  have h0 : 0 < f.vals.length := by have := fo.v0; cases h : f.vals with
    | nil => exact absurd h this
    | cons a b => simp
  have h5 := fo.v5
  have e : D.tup (D.tup ([] ++ D.str "zzz" :: ((f.vals.map D.str).drop 1 ++ [])) :: ([tns f.eyes, tns f.tab] ++ [])) = encF (renF f) := by simp [encF, renF]
  refine FL_rt rfl rfl (bx_seq (bx_exp (bs_fn (bs_cn (bs_var rfl) (bs_cn (bs_var rfl) bs_nl)) (f_chkpl (j := 0) (by simp)) rfl))
    (bx_seq (bx_exp (bs_fn (bs_cn (bs_var rfl) (bs_cn (bs_var rfl) (bs_cn (bs_var rfl) bs_nl))) (f_chkval (j := 0) (n := 0) rfl h0) rfl))
    (bx_seq (bx_asg (bs_idx (bs_idx (bs_var rfl) (bs_var rfl) (idx_h (i := 0) rfl)) bs_glb fv) rfl)
    (bx_rt (bx_ret (bs_fn (bs_cn (bs_var rfl) (bs_cn (bs_var rfl) (bs_cn (bs_tup (bs_cn (bs_tup (bs_cs (bs_slc (bs_var rfl) bs_nlO (bs_sm (bs_var rfl)) slc_t0) rfl (bs_cn (bs_var rfl) (bs_cs (bs_slc (bs_var rfl) (bs_sm (bs_add (bs_var rfl) bs_int rfl)) bs_nlO slc_d1) rfl bs_nl))) ?_) (bs_cs (bs_slc (bs_idx (bs_var rfl) (bs_var rfl) (idx_h (i := 0) rfl)) (bs_sm bs_glb) bs_nlO slc_d1) rfl bs_nl)) ?_) bs_nl))) ?_ cl_h) cl_h)))))
  · simp [LIM]; omega
  · simp [LIM]
  · show FL (l + 5) 22 [encH (f :: r), .int 0, D.tup (D.tup ([] ++ D.str "zzz" :: ((f.vals.map D.str).drop 1 ++ [])) :: ([tns f.eyes, tns f.tab] ++ []))] ts = _
    rw [e]
    exact f_putin ok2
end Lt.Mt

namespace Lt.Mt
open PySem

/-! ### starts, moves, runs as plain data -/
structure St where
  st : List Nat
  old : List (List Nat)
def encS (s : St) : D := .tup [tns s.st, .tup (s.old.map tns)]
abbrev Mv := Nat × List Nat
def encM (m : Mv) : D := .tup [.int (m.1 : Nat), tns m.2]
def encMs (ms : List Mv) : D := .tup (ms.map encM)
def encR (s : St) (ms : List Mv) : D := .tup [encS s, encMs ms]
structure StOk (h : Hs) (s : St) : Prop where
  sl : s.st.length = h.length
  ol : s.old.length = h.length
  mem : ∀ j, j < h.length → s.st.getD j 0 ∈ s.old.getD j []
  ris : ∀ o ∈ s.old, o.Pairwise (· < ·)
  o8 : ∀ o ∈ s.old, o.length ≤ 8
  lt : ∀ j, j < h.length → ∀ v ∈ s.old.getD j [], v < szs h j
def encV (r : List Nat) : D := .lst (ns r)
def encVs (rows : List (List Nat)) : D := .lst (rows.map encV)
def firstV (h : Hs) (s : St) : List (List Nat) := (List.range h.length).map fun j => (s.old.getD j []).filter (fun v => decide (v ≠ s.st.getD j 0)) ++ [s.st.getD j 0]
theorem cl_o2 {rows : List (List Nat)} : (R.o2 (rows.map ns)).clean = true := by
  simp only [R.clean, List.all_map, List.all_eq_true]
  intro a _
  exact cl_ns
theorem fz_o2 {rows : List (List Nat)} : (R.o2 (rows.map ns)).fz = encVs rows := by simp [R.fz, encVs, encV, Function.comp_def]
theorem f_first {l : Nat} {h : Hs} {s : St} {ts : Tin} (hl : h.length ≤ 8) (so : StOk h s) : FL (l + 1) 27 [encH h, encS s] ts = some (.o2 ((firstV h s).map ns), ts) := by
  have e : (firstV h s).map ns = (List.range h.length).map fun j => ((s.old.getD j []).filter (fun v => decide (v ≠ s.st.getD j 0))).map (fun (v : Nat) => D.int (v : Int)) ++ [D.int (s.st.getD j 0 : Nat)] := by
    simp only [firstV, List.map_map]
    apply List.map_congr_left
    intro j _
    simp [ns]
  have cl := cl_o2 (rows := firstV h s)
  rw [e] at cl ⊢
  refine FL_rt rfl rfl (bx_seq (bx_unp (bs_var rfl) rfl) (bx_rt (bx_ret (bs_lck (l := List.range h.length) (enc := fun (n : Nat) => .int (n : Int)) _ (bs_rng (bs_bi (bs_cn (bs_var rfl) bs_nl) len_h) (rngD_nat (by omega))) fun j hj => ?_) cl)))
  have hj := List.mem_range.mp hj
  have e1 : s.st[j]? = some (s.st.getD j 0) := getD_at (by rw [so.sl]; exact hj)
  have e2 : s.old[j]? = some (s.old.getD j []) := getD_at (by rw [so.ol]; exact hj)
  have o8 := so.o8 _ (List.mem_of_getElem? e2)
  refine ⟨_, rfl, bs_add (bs_lcf (l := s.old.getD j []) (enc := fun (n : Nat) => .int (n : Int)) (fun v => decide (v ≠ s.st.getD j 0)) (fun (n : Nat) => .int (n : Int)) (bs_sq (bs_idx (bs_var rfl) (bs_var rfl) (idx_t e2)) rfl) fun v hv => ⟨_, rfl, bs_cmp (bs_var rfl) (bs_idx (bs_var rfl) (bs_var rfl) (idx_n e1)) ne_int, fun _ => ⟨_, bs_var rfl, rfl⟩⟩) (bs_lst (bs_cn (bs_idx (bs_var rfl) (bs_var rfl) (idx_n e1)) bs_nl) (show 1 ≤ 1000000 by omega)) ?_⟩
  show addD (.lst _) (.lst _) = _
  rw [addD, if_pos]
  · rfl
  · have := List.length_filter_le (fun v => decide (v ≠ s.st.getD j 0)) (s.old.getD j [])
    simp only [List.length_map, List.length_cons, List.length_nil, LIM]
    omega
end Lt.Mt

namespace Lt.Mt
open PySem

/-! ### what a move writes -/
def eyesOf (h : Hs) (j : Nat) : List Nat := match h[j]? with
  | some f => f.eyes
  | none => []
def seenV (h : Hs) (rows : List (List Nat)) (j : Nat) (s : List Nat) : List Nat := ((eyesOf h j).zip s).map fun p => (rows.getD p.1 []).getD p.2 0
def valBy (h : Hs) (rows : List (List Nat)) (j : Nat) (s : List Nat) : Nat := tabAt h j (seenV h rows j s)
structure RwOk (h : Hs) (rows : List (List Nat)) : Prop where
  ln : rows.length = h.length
  lt : ∀ j, j < h.length → ∀ v ∈ rows.getD j [], v < szs h j
structure MvOk (h : Hs) (rows : List (List Nat)) (m : Mv) : Prop where
  pl : m.1 < h.length
  ln : m.2.length = (eyesOf h m.1).length
  bd : ∀ p ∈ (eyesOf h m.1).zip m.2, p.2 < (rows.getD p.1 []).length
theorem prod_foldl : ∀ {l : List Nat} {k : Nat}, l.foldl (· * ·) k = k * prodL l
  | [], k => by simp [prodL]
  | a :: l, k => by
    have h1 := prod_foldl (l := l) (k := k * a)
    have h2 := prod_foldl (l := l) (k := a)
    simp only [prodL, List.foldl_cons, Nat.one_mul] at *
    rw [h1, h2, Nat.mul_assoc]
theorem hor_foldl : ∀ {r s : List Nat} {k : Nat}, r.length = s.length → (∀ p ∈ r.zip s, p.1 < p.2) → (r.zip s).foldl (fun n p => n * p.2 + p.1) k < (k + 1) * prodL s
  | [], [], k, _, _ => by simp [prodL]
  | a :: r, b :: s, k, hl, h => by
    have h1 := hor_foldl (r := r) (s := s) (k := k * b + a) (by simpa using hl) fun p hp => h p (by simp [hp])
    have h2 : a < b := h (a, b) (by simp)
    simp only [List.zip_cons_cons, List.foldl_cons]
    refine Nat.lt_of_lt_of_le h1 ?_
    have e : prodL (b :: s) = b * prodL s := by rw [prodL, List.foldl_cons, Nat.one_mul, prod_foldl]
    rw [e, ← Nat.mul_assoc]
    apply Nat.mul_le_mul_right
    rw [Nat.add_mul]
    omega
  | [], _ :: _, _, hl, _ => by simp at hl
  | _ :: _, [], _, hl, _ => by simp at hl
theorem hor_lt {r s : List Nat} (hl : r.length = s.length) (h : ∀ p ∈ r.zip s, p.1 < p.2) : hor (r.zip s) < prodL s := by
  have := hor_foldl (k := 0) hl h
  simpa [hor] using this
theorem zip3 {g : Nat × Nat → Nat} {f : Nat → Nat} : ∀ {e s : List Nat}, s.length = e.length → ((e.zip s).map g).zip (e.map f) = (e.zip s).map fun p => (g p, f p.1)
  | [], [], _ => rfl
  | a :: e, b :: s, h => by simp [zip3 (e := e) (s := s) (by simpa using h)]
  | [], _ :: _, h => by simp at h
  | _ :: _, [], h => by simp at h
theorem getD_mem {α : Type} {l : List α} {i : Nat} {d : α} (h : i < l.length) : l.getD i d ∈ l := List.mem_of_getElem? (getD_at h)
theorem eyes_at {h : Hs} {j : Nat} {f : Fd} (e : h[j]? = some f) : eyesOf h j = f.eyes := by simp [eyesOf, e]
theorem seen_hor {h : Hs} {rows : List (List Nat)} {m : Mv} {f : Fd} (ok : HsOk h) (rw_ : RwOk h rows) (mo : MvOk h rows m) (e : h[m.1]? = some f) : hor ((seenV h rows m.1 m.2).zip (f.eyes.map (szs h))) < f.tab.length := by
  have fo := ok.fd f (List.mem_of_getElem? e)
  have ee := eyes_at e
  have hl := mo.ln
  rw [ee] at hl
  rw [fo.tl]
  apply hor_lt
  · simp [seenV, ee, hl]
  · intro p hp
    rw [seenV, ee, zip3 hl] at hp
    obtain ⟨q, hq, rfl⟩ := List.mem_map.mp hp
    have hb := mo.bd q (by rw [ee]; exact hq)
    have hq1 := (List.of_mem_zip (show (q.1, q.2) ∈ _ from hq)).1
    exact rw_.lt q.1 (fo.eh _ hq1) _ (getD_mem hb)
theorem f_valby {l : Nat} {h : Hs} {rows : List (List Nat)} {m : Mv} {ts : Tin} (ok : HsOk h) (rw_ : RwOk h rows) (mo : MvOk h rows m) : FL (l + 3) 28 [encH h, encVs rows, .int (m.1 : Nat), tns m.2] ts = some (.p (.int (valBy h rows m.1 m.2 : Nat)), ts) := by
  obtain ⟨f, e⟩ := at_lt mo.pl
  have fo := ok.fd f (List.mem_of_getElem? e)
  have ee := eyes_at e
  have e1 : (f.eyes.zip m.2).map (fun p => D.int ((rows.getD p.1 []).getD p.2 0 : Nat)) = ns (seenV h rows m.1 m.2) := by simp [seenV, ee, ns]
  have e2 := f_tabat (l := l) (ts := ts) ok e (.inr rfl) (seen_hor ok rw_ mo e)
  refine FL_rt rfl rfl (bx_rt (bx_ret (bs_fn (bs_cn (bs_var rfl) (bs_cn (bs_var rfl) (bs_cn (bs_lc (ts1 := ts) (l := f.eyes.zip m.2) (enc := fun p => .tup [.int (p.1 : Nat), .int (p.2 : Nat)]) (fun p => .int ((rows.getD p.1 []).getD p.2 0 : Nat)) ?_ fun p hp => ?_) bs_nl))) ?_ rfl) rfl))
  · rw [← zip_nn]
    exact bs_zp (bs_idx (bs_idx (bs_var rfl) (bs_var rfl) (idx_h e)) bs_glb fe) (bs_var rfl) rfl rfl
  · have hq1 := (List.of_mem_zip (show (p.1, p.2) ∈ _ from hp)).1
    have hb := mo.bd p (by rw [ee]; exact hp)
    have hr : rows[p.1]? = some (rows.getD p.1 []) := getD_at (by rw [rw_.ln]; exact fo.eh _ hq1)
    exact ⟨_, _, rfl, bs_idx (bs_idx (bs_var rfl) (bs_var rfl) (idx_l hr)) (bs_var rfl) (idx_ln (getD_at hb)), rfl⟩
  · show FL (l + 2) 17 [encH h, .int (m.1 : Nat), .lst _] ts = _
    rw [e1]
    exact e2
end Lt.Mt

namespace Lt.Mt
open PySem

/-! ### runs, move by move -/
def stepV (h : Hs) (rows : List (List Nat)) (m : Mv) : List (List Nat) := rows.set m.1 (rows.getD m.1 [] ++ [valBy h rows m.1 m.2])
def RunOk (h : Hs) : List (List Nat) → List Mv → Prop
  | _, [] => True
  | rows, m :: ms => MvOk h rows m ∧ RunOk h (stepV h rows m) ms
def versV (h : Hs) (rows : List (List Nat)) (ms : List Mv) : List (List Nat) := ms.foldl (stepV h) rows
def wrV (h : Hs) : List (List Nat) → List Mv → List Nat
  | _, [] => []
  | rows, m :: ms => valBy h rows m.1 m.2 :: wrV h (stepV h rows m) ms
theorem getD_set {α : Type} {l : List α} {i j : Nat} {a d : α} (hi : i < l.length) : (l.set i a).getD j d = if i = j then a else l.getD j d := by
  simp only [List.getD_eq_getElem?_getD, List.getElem?_set]
  by_cases h : i = j
  · subst h; simp [hi]
  · simp [h]
theorem valBy_lt {h : Hs} {rows : List (List Nat)} {m : Mv} (ok : HsOk h) (rw_ : RwOk h rows) (mo : MvOk h rows m) : valBy h rows m.1 m.2 < szs h m.1 := by
  obtain ⟨f, e⟩ := at_lt mo.pl
  have fo := ok.fd f (List.mem_of_getElem? e)
  have hb := seen_hor ok rw_ mo e
  simp only [valBy, tabAt, e, szs]
  exact fo.tv _ (getD_mem hb)
theorem stepV_ok {h : Hs} {rows : List (List Nat)} {m : Mv} (ok : HsOk h) (rw_ : RwOk h rows) (mo : MvOk h rows m) : RwOk h (stepV h rows m) := by
  refine ⟨by simp [stepV, rw_.ln], fun j hj v hv => ?_⟩
  rw [stepV, getD_set (by rw [rw_.ln]; exact mo.pl)] at hv
  split at hv
  · rename_i e
    subst e
    rcases List.mem_append.mp hv with hv | hv
    · exact rw_.lt _ hj v hv
    · rw [List.mem_singleton] at hv
      subst hv
      exact valBy_lt ok rw_ mo
  · exact rw_.lt j hj v hv
theorem firstV_len {h : Hs} {s : St} : (firstV h s).length = h.length := by simp [firstV]
theorem firstV_at {h : Hs} {s : St} {j : Nat} (hj : j < h.length) : (firstV h s).getD j [] = (s.old.getD j []).filter (fun v => decide (v ≠ s.st.getD j 0)) ++ [s.st.getD j 0] := by
  simp [firstV, List.getD_eq_getElem?_getD, List.getElem?_map, List.getElem?_range hj]
theorem firstV_ok {h : Hs} {s : St} (so : StOk h s) : RwOk h (firstV h s) := by
  refine ⟨firstV_len, fun j hj v hv => ?_⟩
  rw [firstV_at hj] at hv
  rcases List.mem_append.mp hv with hv | hv
  · exact so.lt j hj v (List.mem_filter.mp hv).1
  · rw [List.mem_singleton] at hv
    subst hv
    exact so.lt j hj _ (so.mem j hj)
end Lt.Mt

namespace Lt.Mt
open PySem

def LnOk (rows : List (List Nat)) (n : Nat) : Prop := ∀ r ∈ rows, r.length + n ≤ 100000
theorem set_ns {rows : List (List Nat)} {j v : Nat} {r : List Nat} : (rows.map ns).set j (ns r ++ [.int (v : Nat)]) = (rows.set j (r ++ [v])).map ns := by
  rw [List.map_set, ns_app]; rfl
theorem lnOk_step {h : Hs} {rows : List (List Nat)} {m : Mv} {n : Nat} (hj : m.1 < rows.length) (lo : LnOk rows (n + 1)) : LnOk (stepV h rows m) n := by
  intro r hr
  rcases List.mem_or_eq_of_mem_set hr with hr | rfl
  · have := lo r hr; omega
  · have := lo _ (getD_mem (d := []) hj)
    simp only [List.length_append, List.length_cons, List.length_nil]
    omega
theorem ver_loop {l : Nat} {h : Hs} {ts : Tin} {x0 : Option R} (ok : HsOk h) : ∀ {ms : List Mv} {rows : List (List Nat)} {a b : Option R}, RwOk h rows → RunOk h rows ms → LnOk rows ms.length →
    ∃ a' b', forL (turn (FL (l + 3)) (.many [3, 4]) (.seq (.app2 2 (.var 3) (.brw (.fn 28 (.cn (.var 0) (.cn (.var 2) (.cn (.var 3) (.cn (.var 4) .nl))))))) .nil)) (ms.map encM) [some (.p (encH h)), x0, some (.o2 (rows.map ns)), a, b] ts
      = some (.nx [some (.p (encH h)), x0, some (.o2 ((versV h rows ms).map ns)), a', b'], ts)
  | [], rows, a, b, _, _, _ => ⟨a, b, rfl⟩
  | m :: ms, rows, a, b, rw_, ro, lo => by
    obtain ⟨mo, ro⟩ := ro
    have hj : m.1 < rows.length := by rw [rw_.ln]; exact mo.pl
    have er : (rows.map ns)[m.1]? = some (ns (rows.getD m.1 [])) := by rw [List.getElem?_map, getD_at hj (d := [])]; rfl
    have lr := lo _ (getD_mem (d := []) hj)
    obtain ⟨a', b', ih⟩ := ver_loop (l := l) (ts := ts) (x0 := x0) ok (ms := ms) (rows := stepV h rows m) (a := some (.p (.int (m.1 : Nat)))) (b := some (.p (tns m.2))) (stepV_ok ok rw_ mo) ro (lnOk_step hj lo)
    refine ⟨a', b', ?_⟩
    have st : turn (FL (l + 3)) (.many [3, 4]) (.seq (.app2 2 (.var 3) (.brw (.fn 28 (.cn (.var 0) (.cn (.var 2) (.cn (.var 3) (.cn (.var 4) .nl))))))) .nil) [some (.p (encH h)), x0, some (.o2 (rows.map ns)), a, b] (encM m) ts
        = some (.nx [some (.p (encH h)), x0, some (.o2 ((stepV h rows m).map ns)), some (.p (.int (m.1 : Nat))), some (.p (tns m.2))], ts) := by
      rw [stepV, ← set_ns]
      have e := f_valby (l := l) (ts := ts) ok rw_ mo
      rw [← fz_o2] at e
      exact bturn rfl (bx_seq (bx_app2 (bs_var rfl) (bs_brw (bs_fn (bs_cn (bs_var rfl) (bs_cn (bs_var rfl) (bs_cn (bs_var rfl) (bs_cn (bs_var rfl) bs_nl)))) e rfl) rfl) rfl (ixN_nat (by rw [List.length_map]; exact hj)) er (by rw [ns_len]; show _ < 1000000; omega)) bx_nil)
    show forL _ (encM m :: ms.map encM) _ _ = _
    simp only [forL, st]
    exact ih
theorem f_versin {l : Nat} {h : Hs} {s : St} {ms : List Mv} {ts : Tin} (ok : HsOk h) (so : StOk h s) (ro : RunOk h (firstV h s) ms) (lo : ms.length ≤ 90000) : FL (l + 4) 29 [encH h, encR s ms] ts = some (.o2 ((versV h (firstV h s) ms).map ns), ts) := by
  have ln : LnOk (firstV h s) ms.length := by
    intro r hr
    simp only [firstV, List.mem_map, List.mem_range] at hr
    obtain ⟨j, hj, rfl⟩ := hr
    have o8 := so.o8 _ (getD_mem (d := []) (l := s.old) (i := j) (by rw [so.ol]; exact hj))
    have := List.length_filter_le (fun v => decide (v ≠ s.st.getD j 0)) (s.old.getD j [])
    simp only [List.length_append, List.length_cons, List.length_nil]
    omega
  obtain ⟨a', b', e⟩ := ver_loop (l := l) (ts := ts) (x0 := some (.p (encR s ms))) ok (ms := ms) (rows := firstV h s) (a := none) (b := none) (firstV_ok so) ro ln
  exact FL_rt rfl rfl (bx_seq (bx_asg (bs_fn (bs_cn (bs_var rfl) (bs_cn (bs_idx (bs_var rfl) bs_int rfl) bs_nl)) (f_first ok.l8 so) cl_o2) rfl) (bx_seq (bx_for (bs_sq (bs_idx (bs_var rfl) bs_int rfl) rfl) e) (bx_rt (bx_retv rfl cl_o2))))
end Lt.Mt

namespace Lt.Mt
open PySem
theorem last_l {xs : List D} {d : D} {ts : Tin} : idxD ts (.lst (xs ++ [d])) (.int (-1)) = some d := by
  show L2.atI _ _ = _
  rw [atI_last]; simp
theorem last_lm {α : Type} {enc : α → D} {xs : List α} {a : α} {ts : Tin} : idxD ts (.lst ((xs ++ [a]).map enc)) (.int (-1)) = some (enc a) := by
  rw [List.map_append]; exact last_l
def wrBody : Stm := .seq (.app 3 (.brw (.fn 28 (.cn (.var 0) (.cn (.var 2) (.cn (.var 4) (.cn (.var 5) .nl))))))) (.seq (.app2 2 (.var 4) (.brw (.idx (.var 3) (.neg (.int 1))))) .nil)
theorem wr_loop {l : Nat} {h : Hs} {ts : Tin} {x0 : Option R} (ok : HsOk h) : ∀ {ms : List Mv} {rows : List (List Nat)} {fd : List Nat} {a b : Option R}, RwOk h rows → RunOk h rows ms → LnOk rows ms.length → fd.length + ms.length ≤ 100000 →
    ∃ a' b', forL (turn (FL (l + 3)) (.many [4, 5]) wrBody) (ms.map encM) [some (.p (encH h)), x0, some (.o2 (rows.map ns)), some (.o1 (ns fd)), a, b] ts
      = some (.nx [some (.p (encH h)), x0, some (.o2 ((versV h rows ms).map ns)), some (.o1 (ns (fd ++ wrV h rows ms))), a', b'], ts)
  | [], rows, fd, a, b, _, _, _, _ => ⟨a, b, by rw [wrV, List.append_nil]; rfl⟩
  | m :: ms, rows, fd, a, b, rw_, ro, lo, lf => by
    obtain ⟨mo, ro⟩ := ro
    simp only [List.length_cons] at lf
    have hj : m.1 < rows.length := by rw [rw_.ln]; exact mo.pl
    have er : (rows.map ns)[m.1]? = some (ns (rows.getD m.1 [])) := by rw [List.getElem?_map, getD_at hj (d := [])]; rfl
    have lr := lo _ (getD_mem (d := []) hj)
    obtain ⟨a', b', ih⟩ := wr_loop (l := l) (ts := ts) (x0 := x0) ok (ms := ms) (rows := stepV h rows m) (fd := fd ++ [valBy h rows m.1 m.2]) (a := some (.p (.int (m.1 : Nat)))) (b := some (.p (tns m.2))) (stepV_ok ok rw_ mo) ro (lnOk_step hj lo) (by simp; omega)
    refine ⟨a', b', ?_⟩
    have st : turn (FL (l + 3)) (.many [4, 5]) wrBody [some (.p (encH h)), x0, some (.o2 (rows.map ns)), some (.o1 (ns fd)), a, b] (encM m) ts
        = some (.nx [some (.p (encH h)), x0, some (.o2 ((stepV h rows m).map ns)), some (.o1 (ns (fd ++ [valBy h rows m.1 m.2]))), some (.p (.int (m.1 : Nat))), some (.p (tns m.2))], ts) := by
      rw [stepV, ← set_ns]
      have e := f_valby (l := l) (ts := ts) ok rw_ mo
      rw [← fz_o2] at e
      have e2 : ns (fd ++ [valBy h rows m.1 m.2]) = ns fd ++ [D.int (valBy h rows m.1 m.2 : Nat)] := ns_app
      rw [e2]
      exact bturn rfl (bx_seq (bx_app (bs_brw (bs_fn (bs_cn (bs_var rfl) (bs_cn (bs_var rfl) (bs_cn (bs_var rfl) (bs_cn (bs_var rfl) bs_nl)))) e rfl) rfl) rfl (by rw [ns_len]; show _ < 1000000; omega))
        (bx_seq (bx_app2 (bs_var rfl) (bs_brw (bs_idx (bs_var rfl) (bs_neg bs_int rfl) last_l) rfl) rfl (ixN_nat (by rw [List.length_map]; exact hj)) er (by rw [ns_len]; show _ < 1000000; omega)) bx_nil))
    show forL _ (encM m :: ms.map encM) _ _ = _
    simp only [forL, st]
    rw [wrV, show fd ++ valBy h rows m.1 m.2 :: wrV h (stepV h rows m) ms = fd ++ [valBy h rows m.1 m.2] ++ wrV h (stepV h rows m) ms by simp]
    exact ih
theorem firstV_ln {h : Hs} {s : St} {n : Nat} (so : StOk h s) (hn : n ≤ 90000) : LnOk (firstV h s) n := by
  intro r hr
  simp only [firstV, List.mem_map, List.mem_range] at hr
  obtain ⟨j, hj, rfl⟩ := hr
  have o8 := so.o8 _ (getD_mem (d := []) (l := s.old) (i := j) (by rw [so.ol]; exact hj))
  have := List.length_filter_le (fun v => decide (v ≠ s.st.getD j 0)) (s.old.getD j [])
  simp only [List.length_append, List.length_cons, List.length_nil]
  omega
theorem f_writes {l : Nat} {h : Hs} {s : St} {ms : List Mv} {ts : Tin} (ok : HsOk h) (so : StOk h s) (ro : RunOk h (firstV h s) ms) (lo : ms.length ≤ 90000) : FL (l + 4) 31 [encH h, encR s ms] ts = some (.p (tns (wrV h (firstV h s) ms)), ts) := by
  obtain ⟨a', b', e⟩ := wr_loop (l := l) (ts := ts) (x0 := some (.p (encR s ms))) ok (ms := ms) (rows := firstV h s) (fd := []) (a := none) (b := none) (firstV_ok so) ro (firstV_ln so lo) (by simp; omega)
  rw [List.nil_append] at e
  exact FL_rt rfl rfl (bx_seq (bx_par (bs_fn (bs_cn (bs_var rfl) (bs_cn (bs_idx (bs_var rfl) bs_int rfl) bs_nl)) (f_first ok.l8 so) cl_o2) (bs_lst bs_nl (by decide)) rfl rfl) (bx_seq (bx_for (bs_sq (bs_idx (bs_var rfl) bs_int rfl) rfl) e) (bx_rt (bx_ret (bs_brw (bs_bi (bs_cn (bs_var rfl) bs_nl) rfl) cl_ns) cl_ns))))
end Lt.Mt

namespace Lt.Mt
open PySem
def stsP : List Nat → List (Mv × Nat) → List (List Nat)
  | st, [] => [st]
  | st, p :: r => st :: stsP (st.set p.1.1 p.2) r
def stsV (h : Hs) (rows : List (List Nat)) (st : List Nat) : List Mv → List (List Nat)
  | [] => [st]
  | m :: ms => st :: stsV h (stepV h rows m) (st.set m.1 (valBy h rows m.1 m.2)) ms
theorem sts_eq {h : Hs} : ∀ {ms : List Mv} {rows : List (List Nat)} {st : List Nat}, stsP st (ms.zip (wrV h rows ms)) = stsV h rows st ms
  | [], _, _ => rfl
  | m :: ms, rows, st => by
    rw [wrV, List.zip_cons_cons, stsP, stsV]
    show st :: stsP (st.set m.1 (valBy h rows m.1 m.2)) _ = _
    rw [sts_eq]
theorem wr_len {h : Hs} : ∀ {ms : List Mv} {rows : List (List Nat)}, (wrV h rows ms).length = ms.length
  | [], _ => rfl
  | m :: ms, rows => by simp [wrV, wr_len (ms := ms)]
theorem stsV_len {h : Hs} : ∀ {ms : List Mv} {rows : List (List Nat)} {st : List Nat}, (stsV h rows st ms).length = ms.length + 1
  | [], _, _ => rfl
  | m :: ms, rows, st => by simp [stsV, stsV_len (ms := ms)]
def encP (p : Mv × Nat) : D := .tup [encM p.1, .int (p.2 : Nat)]
def saBody : Stm := .seq (.asg 5 true (.brw (.bi .list (.cn (.idx (.var 2) (.neg (.int 1))) .nl)))) (.seq (.sto 5 (.idx (.var 3) (.int 0)) (.var 4)) (.seq (.frz 5) (.seq (.app 2 (.var 5)) .nil)))
theorem set_int {xs : List Nat} {j v : Nat} : (ns xs).set j (.int (v : Nat)) = ns (xs.set j v) := by simp [ns, List.map_set]
theorem sa_loop {F : FT} {ts : Tin} {x0 x1 z : Option R} : ∀ {ps : List (Mv × Nat)} {pre : List (List Nat)} {st : List Nat} {a b c : Option R}, (∀ p ∈ ps, p.1.1 < st.length) → pre.length + ps.length < 100000 →
    ∃ a' b' c', forL (turn F (.many [3, 4]) saBody) (ps.map encP) [x0, x1, some (.o1 ((pre ++ [st]).map encV)), a, b, c, z] ts
      = some (.nx [x0, x1, some (.o1 ((pre ++ stsP st ps).map encV)), a', b', c', z], ts)
  | [], pre, st, a, b, c, _, _ => ⟨a, b, c, rfl⟩
  | p :: ps, pre, st, a, b, c, hp, hl => by
    have hj := hp p (by simp)
    simp only [List.length_cons] at hl
    obtain ⟨a', b', c', ih⟩ := sa_loop (F := F) (ts := ts) (x0 := x0) (x1 := x1) (z := z) (ps := ps) (pre := pre ++ [st]) (st := st.set p.1.1 p.2) (a := some (.p (encM p.1))) (b := some (.p (.int (p.2 : Nat)))) (c := some (.p (encV (st.set p.1.1 p.2)))) (fun q hq => by rw [List.length_set]; exact hp q (by simp [hq])) (by simp; omega)
    refine ⟨a', b', c', ?_⟩
    have st1 : turn F (.many [3, 4]) saBody [x0, x1, some (.o1 ((pre ++ [st]).map encV)), a, b, c, z] (encP p) ts
        = some (.nx [x0, x1, some (.o1 ((pre ++ [st] ++ [st.set p.1.1 p.2]).map encV)), some (.p (encM p.1)), some (.p (.int (p.2 : Nat))), some (.p (encV (st.set p.1.1 p.2))), z], ts) := by
      have e : (pre ++ [st] ++ [st.set p.1.1 p.2]).map encV = (pre ++ [st]).map encV ++ [.lst (ns (st.set p.1.1 p.2))] := by simp [encV]
      rw [e]
      refine bturn rfl (bx_seq (bx_asg (r' := .o1 (ns st)) (bs_brw (r := .o1 (ns st)) (bs_bi (bs_cn (bs_idx (d := encV st) (bs_var rfl) (bs_neg bs_int rfl) last_lm) bs_nl) rfl) cl_ns) rfl) (bx_seq (bx_sto (r := .o1 (ns st)) (r' := .o1 (ns (st.set p.1.1 p.2))) (bs_var rfl) (bs_idx (bs_var rfl) bs_int rfl) rfl (by simp) ?_) (bx_seq (bx_frz rfl) (bx_seq (bx_app (bs_var rfl) rfl ?_) bx_nil))))
      · show (L2.ixN (ns st).length (p.1.1 : Int)).map _ = _
        rw [ns_len, ixN_nat hj]
        show some (R.o1 ((ns st).set p.1.1 (.int (p.2 : Nat)))) = _
        rw [set_int]
      · show ((pre ++ [st]).map encV).length < 1000000
        simp; omega
    show forL _ (encP p :: ps.map encP) _ _ = _
    simp only [forL, st1]
    rw [stsP]
    have e : pre ++ st :: stsP (st.set p.1.1 p.2) ps = pre ++ [st] ++ stsP (st.set p.1.1 p.2) ps := by simp
    rw [e]
    exact ih
theorem run_pl {h : Hs} : ∀ {ms : List Mv} {rows : List (List Nat)}, RunOk h rows ms → ∀ m ∈ ms, m.1 < h.length
  | [], _, _, _, hm => by simp at hm
  | m :: ms, rows, ro, m', hm => by
    rcases List.mem_cons.mp hm with rfl | hm
    · exact ro.1.pl
    · exact run_pl ro.2 m' hm
theorem f_states {l : Nat} {h : Hs} {s : St} {ms : List Mv} {ts : Tin} (ok : HsOk h) (so : StOk h s) (ro : RunOk h (firstV h s) ms) (lo : ms.length ≤ 90000) : FL (l + 5) 32 [encH h, encR s ms] ts = some (.o1 ((stsV h (firstV h s) s.st ms).map tns), ts) := by
  obtain ⟨a', b', c', e⟩ := sa_loop (F := FL (l + 4)) (ts := ts) (x0 := some (.p (encH h))) (x1 := some (.p (encR s ms))) (z := none) (ps := ms.zip (wrV h (firstV h s) ms)) (pre := []) (st := s.st) (a := none) (b := none) (c := none)
    (fun p hp => by rw [so.sl]; exact run_pl ro p.1 (List.of_mem_zip (show (p.1, p.2) ∈ _ from hp)).1) (by simp [List.length_zip, wr_len]; omega)
  rw [List.nil_append, List.nil_append, sts_eq] at e
  have ez : zipD (ms.map encM) (ns (wrV h (firstV h s) ms)) = (ms.zip (wrV h (firstV h s) ms)).map encP := zip_map
  rw [← ez] at e
  exact FL_rt rfl rfl (bx_seq (bx_asg (r' := .o1 ([s.st].map encV)) (bs_lst (bs_cn (bs_bi (bs_cn (bs_idx (bs_idx (bs_var rfl) bs_int rfl) bs_int rfl) bs_nl) rfl) bs_nl) (show 1 ≤ 1000000 by omega)) rfl)
    (bx_seq (bx_for (bs_zp (bs_idx (bs_var rfl) bs_int rfl) (bs_fn (bs_cn (bs_var rfl) (bs_cn (bs_var rfl) bs_nl)) (f_writes ok so ro lo) cl_tns) rfl rfl) e)
    (bx_rt (bx_ret (bs_brw (bs_lc (l := stsV h (firstV h s) s.st ms) (enc := encV) tns (bs_sq (bs_var rfl) rfl) fun a ha => ⟨_, _, rfl, (bs_bi (bs_cn (bs_var rfl) bs_nl) rfl), rfl⟩) (clean_map fun _ => cl_tns)) (clean_map fun _ => cl_tns)))))
end Lt.Mt

namespace Lt.Mt
open PySem

/-! ### how many versions there are -/
def bump (many : List Nat) (j : Nat) : List Nat := many.set j (many.getD j 0 + 1)
def cntM (many : List Nat) (ms : List Mv) : List Nat := ms.foldl (fun many m => bump many m.1) many
def lens (rows : List (List Nat)) : List Nat := rows.map List.length
structure MvC (h : Hs) (many : List Nat) (m : Mv) : Prop where
  pl : m.1 < h.length
  ln : m.2.length = (eyesOf h m.1).length
  bd : ∀ p ∈ (eyesOf h m.1).zip m.2, p.2 < many.getD p.1 0
def RunC (h : Hs) : List Nat → List Mv → Prop
  | _, [] => True
  | many, m :: ms => MvC h many m ∧ RunC h (bump many m.1) ms
theorem lens_at {rows : List (List Nat)} {j : Nat} : (lens rows).getD j 0 = (rows.getD j []).length := by
  simp only [lens, List.getD_eq_getElem?_getD, List.getElem?_map]
  cases rows[j]? <;> rfl
theorem lens_len {rows : List (List Nat)} : (lens rows).length = rows.length := by simp [lens]
theorem bump_len {many : List Nat} {j : Nat} : (bump many j).length = many.length := by simp [bump]
theorem cntM_len : ∀ {ms : List Mv} {many : List Nat}, (cntM many ms).length = many.length
  | [], _ => rfl
  | m :: ms, many => by
    show (cntM (bump many m.1) ms).length = _
    rw [cntM_len, bump_len]
theorem lens_step {h : Hs} {rows : List (List Nat)} {m : Mv} : lens (stepV h rows m) = bump (lens rows) m.1 := by
  rw [bump, lens_at, stepV, lens, List.map_set, List.length_append]; rfl
theorem lens_vers {h : Hs} : ∀ {ms : List Mv} {rows : List (List Nat)}, lens (versV h rows ms) = cntM (lens rows) ms
  | [], _ => rfl
  | m :: ms, rows => by
    show lens (versV h (stepV h rows m) ms) = cntM (bump (lens rows) m.1) ms
    rw [lens_vers, lens_step]
theorem mvC_iff {h : Hs} {rows : List (List Nat)} {m : Mv} : MvC h (lens rows) m ↔ MvOk h rows m := by
  constructor
  · intro a; exact ⟨a.pl, a.ln, fun p hp => by have := a.bd p hp; rwa [lens_at] at this⟩
  · intro a; exact ⟨a.pl, a.ln, fun p hp => by rw [lens_at]; exact a.bd p hp⟩
theorem runC_iff {h : Hs} : ∀ {ms : List Mv} {rows : List (List Nat)}, RunC h (lens rows) ms ↔ RunOk h rows ms
  | [], _ => Iff.rfl
  | m :: ms, rows => by
    rw [RunC, RunOk, mvC_iff, ← lens_step, runC_iff]
section
variable {F : FT} {ρ ρ1 ρ2 : Env} {ts ts1 ts2 ts3 : Tin}
theorem getE_frozen : ∀ {ρ : Env} {i : Nat} {x : R}, getE ρ i = some x → getE (frozen ρ) i = some (.p x.fz)
  | [], _, _, h => by simp [getE] at h
  | o :: r, 0, x, h => by
    simp only [getE] at h
    subst h
    rfl
  | o :: r, n + 1, x, h => getE_frozen (ρ := r) (i := n) h
theorem bx_bump {i j k : Nat} {many : List Nat} (h1 : getE ρ i = some (.o1 (ns many))) (h2 : getE ρ j = some (.p (.int (k : Nat)))) (hk : k < many.length) :
    ex F (.sto i (.var j) (.brw (.add (.idx (.var i) (.var j)) (.int 1)))) ρ ts = some (.nx (setE ρ i (some (.o1 (ns (bump many k))))), ts) := by
  refine bx_sto (r := .o1 (ns many)) (bs_brw (r := .p (.int ((many.getD k 0 + 1 : Nat) : Int))) (bs_add (bs_idx (bs_var (getE_frozen h1)) (bs_var (getE_frozen h2)) (idx_ln (getD_at hk (d := 0)))) bs_int rfl) rfl) (bs_var h2) h1 (by simp) ?_
  show (L2.ixN (ns many).length (k : Int)).map _ = _
  rw [ns_len, ixN_nat hk]
  show some (R.o1 ((ns many).set k (.int ((many.getD k 0 + 1 : Nat) : Int)))) = _
  rw [set_int]; rfl
end
theorem cnt_loop {F : FT} {ts : Tin} {x0 x1 x2 z : Option R} : ∀ {ms : List Mv} {many : List Nat} {a b : Option R}, (∀ m ∈ ms, m.1 < many.length) →
    ∃ a' b', forL (turn F (.many [4, 5]) (.seq (.sto 3 (.var 4) (.brw (.add (.idx (.var 3) (.var 4)) (.int 1)))) .nil)) (ms.map encM) [x0, x1, x2, some (.o1 (ns many)), a, b, z] ts
      = some (.nx [x0, x1, x2, some (.o1 (ns (cntM many ms))), a', b', z], ts)
  | [], many, a, b, _ => ⟨a, b, rfl⟩
  | m :: ms, many, a, b, h => by
    obtain ⟨a', b', ih⟩ := cnt_loop (F := F) (ts := ts) (x0 := x0) (x1 := x1) (x2 := x2) (z := z) (ms := ms) (many := bump many m.1) (a := some (.p (.int (m.1 : Nat)))) (b := some (.p (tns m.2))) (fun q hq => by rw [bump_len]; exact h q (by simp [hq]))
    refine ⟨a', b', ?_⟩
    have st : turn F (.many [4, 5]) (.seq (.sto 3 (.var 4) (.brw (.add (.idx (.var 3) (.var 4)) (.int 1)))) .nil) [x0, x1, x2, some (.o1 (ns many)), a, b, z] (encM m) ts = some (.nx [x0, x1, x2, some (.o1 (ns (bump many m.1))), some (.p (.int (m.1 : Nat))), some (.p (tns m.2)), z], ts) :=
      bturn rfl (bx_seq (bx_bump (i := 3) (j := 4) rfl rfl (h m (by simp))) bx_nil)
    show forL _ (encM m :: ms.map encM) _ _ = _
    simp only [forL, st]
    exact ih
theorem f_counts {l : Nat} {h : Hs} {s : St} {ms : List Mv} {n : Nat} {ts : Tin} (ok : HsOk h) (so : StOk h s) (hp : ∀ m ∈ ms.take n, m.1 < h.length) : FL (l + 2) 34 [encH h, encR s ms, .int (n : Nat)] ts = some (.o1 (ns (cntM (lens (firstV h s)) (ms.take n))), ts) := by
  obtain ⟨a', b', e⟩ := cnt_loop (F := FL (l + 1)) (ts := ts) (x0 := some (.p (encH h))) (x1 := some (.p (encR s ms))) (x2 := some (.p (.int (n : Nat)))) (z := none) (ms := ms.take n) (many := lens (firstV h s)) (a := none) (b := none) (fun m hm => by rw [lens_len, firstV_len]; exact hp m hm)
  rw [List.map_take] at e
  have e1 : ns (lens (firstV h s)) = (firstV h s).map fun r => D.int (r.length : Nat) := by simp [ns, lens]
  refine FL_rt rfl rfl (bx_seq (bx_asg (r' := .o1 (ns (lens (firstV h s)))) (bs_lc (l := firstV h s) (enc := encV) (fun r => .int (r.length : Nat)) (bs_sq (bs_fn (bs_cn (bs_var rfl) (bs_cn (bs_idx (bs_var rfl) bs_int rfl) bs_nl)) (f_first ok.l8 so) cl_o2) ?_) fun r hr => ⟨_, _, rfl, bs_bi (bs_cn (bs_var rfl) bs_nl) len_lm, rfl⟩) (by rw [e1]; rfl)) (bx_seq (bx_for (bs_sq (bs_slc (bs_idx (bs_var rfl) bs_int rfl) bs_nlO (bs_sm (bs_var rfl)) slc_t) rfl) e) (bx_rt (bx_retv rfl cl_ns))))
  rw [fz_o2]; rfl
end Lt.Mt

namespace Lt.Mt
open PySem

/-! ### is_state, is_box, is_start -/
theorem szs_f {h : Hs} {j : Nat} {f : Fd} (e : h[j]? = some f) : szs h j = f.vals.length := by simp [szs, e]
theorem f_isval2 {l : Nat} {h : Hs} {j n : Nat} {ts : Tin} (hj : j < h.length) (hn : n < szs h j) : FL (l + 2) 9 [encH h, .int (j : Int), .int (n : Int)] ts = some (.p (.bl true), ts) := by
  obtain ⟨f, hf⟩ := at_lt hj
  exact f_isval hf (by rw [← szs_f hf]; exact hn)
theorem enm_l {α : Type} {enc : α → D} {F : FT} {ρ : Env} {ts ts1 : Tin} {t : Tm} {x : R} {xs : List α} (h : ev F t ρ ts = some (x, ts1)) (e : seqD x.fz = some (xs.map enc)) : evI F (.enm t) ρ ts = some (xs.zipIdx.map fun p => .tup [.int (p.2 : Nat), enc p.1], ts1) := by
  rw [bs_enm h e, enm_map]
theorem f_isstate {l : Nat} {h : Hs} {st : List Nat} {ts : Tin} (sl : st.length = h.length) (lt : ∀ j, j < h.length → st.getD j 0 < szs h j) : FL (l + 3) 10 [encH h, tns st] ts = some (.p (.bl true), ts) := by
  refine FL_rt rfl rfl (bx_seq (bx_ifF (bs_orF (bs_not (k := true) (bs_isi (bs_var rfl) rfl)) (bs_cmp (bs_bi (bs_cn (bs_var rfl) bs_nl) len_n) (bs_bi (bs_cn (bs_var rfl) bs_nl) len_h) (ne_len sl))) bx_nil)
    (bx_rt (bx_ret (bs_allT (l := st.zipIdx) (enc := fun p => .tup [.int (p.2 : Nat), .int (p.1 : Nat)]) (enm_l (enc := fun (n : Nat) => .int (n : Int)) (bs_var rfl) rfl) fun p hp => ⟨_, rfl, (bs_fn (bs_cn (bs_var rfl) (bs_cn (bs_var rfl) (bs_cn (bs_var rfl) bs_nl))) (f_isval2 ?_ ?_) rfl)⟩) rfl)))
  · have := List.mem_zipIdx_iff_getElem?.mp hp
    have := (List.getElem?_eq_some_iff.mp this).1
    omega
  · have e := List.mem_zipIdx_iff_getElem?.mp hp
    have h1 := (List.getElem?_eq_some_iff.mp e).1
    have := lt p.2 (by omega)
    rw [List.getD_eq_getElem?_getD, e] at this
    exact this
theorem f_isvset {l : Nat} {h : Hs} {j : Nat} {o : List Nat} {ts : Tin} (hj : j < h.length) (ne : o ≠ []) (o8 : o.length ≤ 8) (ris : o.Pairwise (· < ·)) (lt : ∀ v ∈ o, v < szs h j) : FL (l + 3) 11 [encH h, .int (j : Nat), tns o] ts = some (.p (.bl true), ts) := by
  refine FL_rt rfl rfl (bx_seq (bx_ifF (bs_orF (bs_not (k := true) (bs_isi (bs_var rfl) rfl)) (bs_orF (bs_cmp (o := .eq) (k := false) (bs_bi (bs_cn (bs_var rfl) bs_nl) len_n) bs_int ?_) (bs_not (k := true) (bs_allT (l := o) (enc := fun (n : Nat) => .int (n : Int)) (bs_sq (bs_var rfl) rfl) fun v hv => ⟨_, rfl, (bs_fn (bs_cn (bs_var rfl) (bs_cn (bs_var rfl) (bs_cn (bs_var rfl) bs_nl))) (f_isval2 hj (lt v hv)) rfl)⟩)))) bx_nil)
    (bx_rt (bx_ret (bs_fn (bs_cn (bs_var rfl) bs_nl) (f_rises (by omega) ris) rfl) rfl)))
  show cmpD .eq (.int (o.length : Nat)) (.int ((0 : Nat) : Int)) = _
  rw [eq_int]; simp [ne]
theorem f_isbox {l : Nat} {h : Hs} {s : St} {ts : Tin} (so : StOk h s) : FL (l + 4) 12 [encH h, .tup (s.old.map tns)] ts = some (.p (.bl true), ts) := by
  refine FL_rt rfl rfl (bx_seq (bx_ifF (bs_orF (bs_not (k := true) (bs_isi (bs_var rfl) rfl)) (bs_cmp (bs_bi (bs_cn (bs_var rfl) bs_nl) len_tm) (bs_bi (bs_cn (bs_var rfl) bs_nl) len_h) (ne_len so.ol))) bx_nil)
    (bx_rt (bx_ret (bs_allT (l := s.old.zipIdx) (enc := fun p => .tup [.int (p.2 : Nat), tns p.1]) (enm_l (enc := tns) (bs_var rfl) rfl) fun p hp => ⟨_, rfl, (bs_fn (bs_cn (bs_var rfl) (bs_cn (bs_var rfl) (bs_cn (bs_var rfl) bs_nl))) ?_ rfl)⟩) rfl)))
  have e := List.mem_zipIdx_iff_getElem?.mp hp
  have h1 := (List.getElem?_eq_some_iff.mp e).1
  have hj : p.2 < h.length := by rw [← so.ol]; exact h1
  have eg : s.old.getD p.2 [] = p.1 := by rw [List.getD_eq_getElem?_getD, e]; rfl
  have hm := List.mem_of_getElem? e
  refine f_isvset hj ?_ (so.o8 _ hm) (so.ris _ hm) ?_
  · intro z
    have := so.mem p.2 hj
    rw [eg, z] at this
    simp at this
  · have := so.lt p.2 hj
    rwa [eg] at this
theorem asInts_tns {i : Int} {l : List Nat} : inD (.int i) (tns l) = some (decide (i ∈ l.map fun (n : Nat) => (n : Int))) := by
  show (match (D.int i), asInts (ns l) with
    | .int i, some is => some (decide (i ∈ is))
    | _, _ => none) = _
  rw [asInts_ns]
theorem in_tns {v : Nat} {l : List Nat} : inD (.int (v : Nat)) (tns l) = some (decide (v ∈ l)) := by
  rw [asInts_tns]
  congr 1
  rw [Bool.eq_iff_iff, decide_eq_true_eq, decide_eq_true_eq, List.mem_map]
  constructor
  · rintro ⟨a, ha, e⟩
    have : a = v := by omega
    rwa [← this]
  · intro hv; exact ⟨v, hv, rfl⟩
theorem f_isin {l : Nat} {h : Hs} {s : St} {ts : Tin} (so : StOk h s) : FL (l + 1) 13 [tns s.st, .tup (s.old.map tns)] ts = some (.p (.bl true), ts) := by
  have ez : zipD (ns s.st) (s.old.map tns) = (s.st.zip s.old).map fun p => .tup [.int (p.1 : Nat), tns p.2] := zip_map
  refine FL_rt rfl rfl (bx_rt (bx_ret (bs_allT (l := s.st.zip s.old) (enc := fun p => .tup [.int (p.1 : Nat), tns p.2]) (by rw [← ez]; exact bs_zp (bs_var rfl) (bs_var rfl) rfl rfl) fun p hp => ⟨_, rfl, (bs_cmp (bs_var rfl) (bs_var rfl) ?_)⟩) rfl))
  show inD (.int (p.1 : Nat)) (tns p.2) = _
  rw [in_tns]
  obtain ⟨i, hi, e⟩ := List.mem_iff_getElem.mp hp
  have hi2 : i < s.st.length ∧ i < s.old.length := by rw [List.length_zip] at hi; omega
  rw [List.getElem_zip] at e
  have := so.mem i (by rw [← so.sl]; exact hi2.1)
  rw [List.getD_eq_getElem?_getD, List.getD_eq_getElem?_getD, List.getElem?_eq_getElem hi2.1, List.getElem?_eq_getElem hi2.2] at this
  simp only [Option.getD_some] at this
  rw [← e]
  simp [this]
theorem f_isstart {l : Nat} {h : Hs} {s : St} {ts : Tin} (so : StOk h s) : FL (l + 5) 14 [encH h, encS s] ts = some (.p (.bl true), ts) :=
  FL_rt rfl rfl (bx_seq (bx_ifF (bs_orF (bs_not (k := true) (bs_isi (bs_var rfl) rfl)) (bs_cmp (k := false) (bs_bi (bs_cn (bs_var rfl) bs_nl) rfl) bs_glb rfl)) bx_nil)
    (bx_rt (bx_ret (bs_andT (bs_fn (bs_cn (bs_var rfl) (bs_cn (bs_idx (bs_var rfl) bs_int rfl) bs_nl)) (f_isstate so.sl fun j hj => so.lt j hj _ (so.mem j hj)) rfl) (bs_andT (bs_fn (bs_cn (bs_var rfl) (bs_cn (bs_idx (bs_var rfl) bs_int rfl) bs_nl)) (f_isbox so) rfl) (bs_fn (bs_cn (bs_idx (bs_var rfl) bs_int rfl) (bs_cn (bs_idx (bs_var rfl) bs_int rfl) bs_nl)) (f_isin so) rfl))) rfl)))
end Lt.Mt

namespace Lt.Mt
open PySem

/-! ### versions, state_behind -/
theorem f_versions {l : Nat} {h : Hs} {s : St} {ms : List Mv} {j : Nat} {ts : Tin} (ok : HsOk h) (so : StOk h s) (ro : RunOk h (firstV h s) ms) (lo : ms.length ≤ 90000) (hj : j < h.length) (hl : (versV h (firstV h s) ms).length = h.length) : FL (l + 5) 30 [encH h, encR s ms, .int (j : Nat)] ts = some (.p (tns ((versV h (firstV h s) ms).getD j [])), ts) := by
  refine FL_rt rfl rfl (bx_seq (bx_exp (bs_fn (bs_cn (bs_var rfl) (bs_cn (bs_var rfl) bs_nl)) (f_chkpl hj) rfl))
    (bx_rt (bx_ret (bs_bi (bs_cn (bs_idx (d := encV ((versV h (firstV h s) ms).getD j [])) (bs_fn (bs_cn (bs_var rfl) (bs_cn (bs_var rfl) bs_nl)) (f_versin ok so ro lo) cl_o2) (bs_var rfl) ?_) bs_nl) rfl) cl_tns)))
  rw [fz_o2]
  exact idx_l (getD_at (by rw [hl]; exact hj))
theorem stsV_ne {h : Hs} {ms : List Mv} {rows : List (List Nat)} {st : List Nat} : stsV h rows st ms ≠ [] := by
  cases ms <;> simp [stsV]
/-- the last of the states -/
def endV (h : Hs) (rows : List (List Nat)) (st : List Nat) (ms : List Mv) : List Nat := (stsV h rows st ms).getLastD []
theorem last_enc {α : Type} {enc : α → D} {xs : List α} {d : α} {ts : Tin} (h : xs ≠ []) : idxD ts (.lst (xs.map enc)) (.int (-1)) = some (enc (xs.getLastD d)) := by
  obtain ⟨ys, a, rfl⟩ : ∃ ys a, xs = ys ++ [a] := ⟨xs.dropLast, xs.getLast h, (List.dropLast_concat_getLast h).symm⟩
  rw [last_lm]; simp
theorem f_behind {l : Nat} {h : Hs} {s : St} {ms : List Mv} {ts : Tin} (ok : HsOk h) (so : StOk h s) (ro : RunOk h (firstV h s) ms) (lo : ms.length ≤ 90000) : FL (l + 6) 33 [encH h, encR s ms] ts = some (.p (tns (endV h (firstV h s) s.st ms)), ts) :=
  FL_rt rfl rfl (bx_rt (bx_ret (bs_idx (bs_fn (bs_cn (bs_var rfl) (bs_cn (bs_var rfl) bs_nl)) (f_states ok so ro lo) (clean_map fun _ => cl_tns)) (bs_neg bs_int rfl) (last_enc (enc := tns) (d := []) stsV_ne)) cl_tns))

/-! ### strides -/
def flip1 (h : Hs) (many : List Nat) (m : Mv) : Mv := (m.1, ((eyesOf h m.1).zip m.2).map fun p => many.getD p.1 0 - 1 - p.2)
def flipV (h : Hs) : List Nat → List Mv → List Mv
  | _, [] => []
  | many, m :: ms => flip1 h many m :: flipV h (bump many m.1) ms
theorem f_counts0 {l : Nat} {h : Hs} {s : St} {ms : List Mv} {ts : Tin} (ok : HsOk h) (so : StOk h s) : FL (l + 2) 34 [encH h, encR s ms, .int 0] ts = some (.o1 (ns (lens (firstV h s))), ts) :=
  f_counts (n := 0) ok so (by simp)
theorem f_countsN {l : Nat} {h : Hs} {s : St} {ms : List Mv} {ts : Tin} (ok : HsOk h) (so : StOk h s) (hp : ∀ m ∈ ms, m.1 < h.length) : FL (l + 2) 34 [encH h, encR s ms, .int (ms.length : Nat)] ts = some (.o1 (ns (cntM (lens (firstV h s)) ms)), ts) := by
  have := f_counts (l := l) (ms := ms) (n := ms.length) (ts := ts) ok so (by rw [List.take_length]; exact hp)
  rwa [List.take_length] at this
theorem ev_eyes {F : FT} {ρ : Env} {ts : Tin} {h : Hs} {f : Fd} {m : Mv} {i j k : Nat} {x : Str} (h1 : getE ρ i = some (.p (encH h))) (h2 : getE ρ j = some (.p (.int (m.1 : Nat)))) (h3 : getE ρ k = some (.p (tns m.2))) (e : h[m.1]? = some f) :
    evI F (.zp (.idx (.idx (.var i) (.var j)) (.glb x 1)) (.var k)) ρ ts = some (((f.eyes.zip m.2)).map fun p => .tup [.int (p.1 : Nat), .int (p.2 : Nat)], ts) := by
  rw [← zip_nn]
  exact bs_zp (bs_idx (bs_idx (bs_var h1) (bs_var h2) (idx_h e)) bs_glb fe) (bs_var h3) rfl rfl
def sdBody : Stm := .seq (.asg 6 false (.brw (.lc [7, 8] (.many [7, 8]) (.zp (.idx (.idx (.var 0) (.var 4)) (.glb "WATCHED_runs" 1)) (.var 5)) (.bl true) (.sub (.sub (.idx (.var 2) (.var 7)) (.int 1)) (.var 8)) false))) (.seq (.app 3 (.tup (.cn (.var 4) (.cn (.bi .tuple (.cn (.var 6) .nl)) .nl)))) (.seq (.sto 2 (.var 4) (.brw (.add (.idx (.var 2) (.var 4)) (.int 1)))) .nil))
theorem sd_loop {F : FT} {h : Hs} {ts : Tin} {x1 y z : Option R} (ok : HsOk h) : ∀ {ms : List Mv} {many : List Nat} {fd : List Mv} {a b c : Option R}, many.length = h.length → RunC h many ms → fd.length + ms.length ≤ 100000 →
    ∃ a' b' c' many', forL (turn F (.many [4, 5]) sdBody) (ms.map encM) [some (.p (encH h)), x1, some (.o1 (ns many)), some (.o1 (fd.map encM)), a, b, c, y, z] ts
      = some (.nx [some (.p (encH h)), x1, many', some (.o1 ((fd ++ flipV h many ms).map encM)), a', b', c', y, z], ts)
  | [], many, fd, a, b, c, _, _, _ => ⟨a, b, c, _, by rw [flipV, List.append_nil]; rfl⟩
  | m :: ms, many, fd, a, b, c, hl, ro, lf => by
    obtain ⟨mo, ro⟩ := ro
    simp only [List.length_cons] at lf
    obtain ⟨f, e⟩ := at_lt mo.pl
    have fo := ok.fd f (List.mem_of_getElem? e)
    have ee := eyes_at e
    obtain ⟨a', b', c', q', ih⟩ := sd_loop (F := F) (ts := ts) (x1 := x1) (y := y) (z := z) ok (ms := ms) (many := bump many m.1) (fd := fd ++ [flip1 h many m]) (a := some (.p (.int (m.1 : Nat)))) (b := some (.p (tns m.2))) (c := some (.p (.lst (ns (flip1 h many m).2)))) (by rw [bump_len]; exact hl) ro (by simp; omega)
    refine ⟨a', b', c', q', ?_⟩
    have ef : (f.eyes.zip m.2).map (fun p => D.int ((many.getD p.1 0 - 1 - p.2 : Nat) : Int)) = ns (flip1 h many m).2 := by simp [flip1, ee, ns]
    have st : turn F (.many [4, 5]) sdBody [some (.p (encH h)), x1, some (.o1 (ns many)), some (.o1 (fd.map encM)), a, b, c, y, z] (encM m) ts
        = some (.nx [some (.p (encH h)), x1, some (.o1 (ns (bump many m.1))), some (.o1 ((fd ++ [flip1 h many m]).map encM)), some (.p (.int (m.1 : Nat))), some (.p (tns m.2)), some (.p (.lst (ns (flip1 h many m).2))), y, z], ts) := by
      have e2 : (fd ++ [flip1 h many m]).map encM = fd.map encM ++ [.tup [.int (m.1 : Nat), tns (flip1 h many m).2]] := by rw [List.map_append]; rfl
      rw [e2]
      refine bturn rfl (bx_seq (bx_asg (r := .o1 (ns (flip1 h many m).2)) (bs_brw ?_ cl_ns) rfl) (bx_seq (bx_app (bs_tup (bs_cn (bs_var rfl) (bs_cn (bs_bi (bs_cn (bs_var rfl) bs_nl) rfl) bs_nl)) (show 2 ≤ 1000000 by omega)) rfl (by rw [List.length_map]; show _ < 1000000; omega)) (bx_seq (bx_bump (i := 2) (j := 4) rfl rfl (by rw [hl]; exact mo.pl)) bx_nil)))
      rw [← ef]
      refine bs_lc (l := f.eyes.zip m.2) (enc := fun p => .tup [.int (p.1 : Nat), .int (p.2 : Nat)]) _ (ev_eyes rfl rfl rfl e) fun p hp => ?_
      have hb := mo.bd p (by rw [ee]; exact hp)
      have hq := fo.eh _ (List.of_mem_zip (show (p.1, p.2) ∈ _ from hp)).1
      refine ⟨_, _, rfl, bs_sub (bs_sub (bs_idx (bs_var rfl) (bs_var rfl) (idx_ln (getD_at (by rw [hl]; exact hq) (d := 0)))) bs_int rfl) (bs_var rfl) rfl, ?_⟩
      show D.int _ = D.int _
      congr 1
      omega
    show forL _ (encM m :: ms.map encM) _ _ = _
    simp only [forL, st]
    rw [flipV, show fd ++ flip1 h many m :: flipV h (bump many m.1) ms = fd ++ [flip1 h many m] ++ flipV h (bump many m.1) ms by simp]
    exact ih
theorem cl_m {m : Mv} : (encM m).nl = true := nls_cons rfl (nls_cons cl_tns rfl)
theorem cl_ms {ms : List Mv} : (encMs ms).nl = true := clean_map fun _ => cl_m
theorem lens_first {h : Hs} {s : St} : (lens (firstV h s)).length = h.length := by rw [lens_len, firstV_len]
theorem f_strides {l : Nat} {h : Hs} {s : St} {ms : List Mv} {ts : Tin} (ok : HsOk h) (so : StOk h s) (ro : RunOk h (firstV h s) ms) (lo : ms.length ≤ 90000) : FL (l + 4) 36 [encH h, encR s ms] ts = some (.p (encMs (flipV h (lens (firstV h s)) ms)), ts) := by
  obtain ⟨a', b', c', q', e⟩ := sd_loop (F := FL (l + 2)) (ts := ts) (x1 := some (.p (encR s ms))) (y := none) (z := none) ok (ms := ms) (many := lens (firstV h s)) (fd := []) (a := none) (b := none) (c := none) lens_first (runC_iff.mpr ro) (by simp; omega)
  rw [List.nil_append] at e
  have e1 : FL (l + 3) 35 [encH h, encR s ms] ts = some (.o1 ((flipV h (lens (firstV h s)) ms).map encM), ts) :=
    FL_rt rfl rfl (bx_seq (bx_par (bs_fn (bs_cn (bs_var rfl) (bs_cn (bs_var rfl) (bs_cn bs_int bs_nl))) (f_counts0 ok so) cl_ns) (bs_lst bs_nl (by decide)) rfl rfl) (bx_seq (bx_for (bs_sq (bs_idx (bs_var rfl) bs_int rfl) rfl) e) (bx_rt (bx_retv rfl (clean_map fun _ => cl_m)))))
  exact FL_rt rfl rfl (bx_rt (bx_ret (bs_bi (bs_cn (bs_fn (bs_cn (bs_var rfl) (bs_cn (bs_var rfl) bs_nl)) e1 (clean_map fun _ => cl_m)) bs_nl) rfl) cl_ms))

/-! ### newest -/
def newV (h : Hs) (many : List Nat) (j : Nat) : List Nat := (eyesOf h j).map fun e => many.getD e 0 - 1
theorem f_newest {l : Nat} {h : Hs} {s : St} {ms : List Mv} {j : Nat} {ts : Tin} (ok : HsOk h) (so : StOk h s) (ro : RunOk h (firstV h s) ms) (hj : j < h.length) (pos : ∀ e ∈ eyesOf h j, 0 < (cntM (lens (firstV h s)) ms).getD e 0) : FL (l + 3) 38 [encH h, encR s ms, .int (j : Nat)] ts = some (.p (tns (newV h (cntM (lens (firstV h s)) ms) j)), ts) := by
  obtain ⟨f, e⟩ := at_lt hj
  have fo := ok.fd f (List.mem_of_getElem? e)
  have ee := eyes_at e
  have e1 : FL (l + 2) 37 [encH h, .lst (ns (cntM (lens (firstV h s)) ms)), .int (j : Nat)] ts = some (.p (tns (newV h (cntM (lens (firstV h s)) ms) j)), ts) := by
    have ef : ns (newV h (cntM (lens (firstV h s)) ms) j) = f.eyes.map fun e => D.int (((cntM (lens (firstV h s)) ms).getD e 0 - 1 : Nat) : Int) := by simp [newV, ee, ns]
    rw [tns, ef]
    refine FL_rt rfl rfl (bx_rt (bx_ret (bs_bi (bs_cn (bs_lc (l := f.eyes) (enc := fun (n : Nat) => .int (n : Int)) _ (bs_sq (bs_idx (bs_idx (bs_var rfl) (bs_var rfl) (idx_h e)) bs_glb fe) rfl) fun p hp => ⟨_, _, rfl, (bs_sub (bs_idx (bs_var rfl) (bs_var rfl) (idx_ln (getD_at (by rw [cntM_len, lens_first]; exact fo.eh p hp) (d := 0)))) bs_int rfl), ?_⟩) bs_nl) rfl) (clean_map fun _ => rfl)))
    have := pos p (by rw [ee]; exact hp)
    show D.int _ = D.int _
    congr 1
    omega
  exact FL_rt rfl rfl (bx_seq (bx_exp (bs_fn (bs_cn (bs_var rfl) (bs_cn (bs_var rfl) bs_nl)) (f_chkpl hj) rfl))
    (bx_rt (bx_ret (bs_fn (bs_cn (bs_var rfl) (bs_cn (bs_fn (bs_cn (bs_var rfl) (bs_cn (bs_var rfl) (bs_cn (bs_bi (bs_cn (bs_idx (bs_var rfl) bs_int rfl) bs_nl) len_tm) bs_nl))) (f_countsN ok so (run_pl ro)) cl_ns) (bs_cn (bs_var rfl) bs_nl))) e1 cl_tns) cl_tns)))
end Lt.Mt

namespace Lt.Mt
open PySem

/-! ### sights_back, has_form -/
theorem f_back {l : Nat} {h : Hs} {many : List Nat} {m : Mv} {ts : Tin} (ok : HsOk h) (hl : many.length = h.length) (mo : MvC h many m) : FL (l + 1) 40 [encH h, .lst (ns many), .int (m.1 : Nat), tns m.2] ts = some (.p (tns (flip1 h many m).2), ts) := by
  obtain ⟨f, e⟩ := at_lt mo.pl
  have fo := ok.fd f (List.mem_of_getElem? e)
  have ee := eyes_at e
  have ef : (f.eyes.zip m.2).map (fun p => D.int ((many.getD p.1 0 - 1 - p.2 : Nat) : Int)) = ns (flip1 h many m).2 := by simp [flip1, ee, ns]
  refine FL_rt rfl rfl (bx_seq (bx_asg (r := .o1 (ns (flip1 h many m).2)) ?_ rfl) (bx_rt (bx_ret (bs_ite (k := false) (r := .p .non) (bs_anyF (l := (flip1 h many m).2) (enc := fun (n : Nat) => .int (n : Int)) (bs_sq (bs_var rfl) rfl) fun a ha => ⟨_, rfl, (bs_cmp (bs_var rfl) bs_int ?_)⟩) (fun h => by cases h) fun _ => (bs_bi (bs_cn (bs_var rfl) bs_nl) rfl)) cl_tns)))
  · rw [← ef]
    refine bs_lc (l := f.eyes.zip m.2) (enc := fun p => .tup [.int (p.1 : Nat), .int (p.2 : Nat)]) _ (ev_eyes rfl rfl rfl e) fun p hp => ?_
    have hb := mo.bd p (by rw [ee]; exact hp)
    have hq := fo.eh _ (List.of_mem_zip (show (p.1, p.2) ∈ _ from hp)).1
    refine ⟨_, _, rfl, bs_sub (bs_sub (bs_idx (bs_var rfl) (bs_var rfl) (idx_ln (getD_at (by rw [hl]; exact hq) (d := 0)))) bs_int rfl) (bs_var rfl) rfl, ?_⟩
    show D.int _ = D.int _
    congr 1
    omega
  · show some (decide ((a : Int) < 0)) = _
    simp
theorem f_form {l : Nat} {h : Hs} {m : Mv} {ts : Tin} (pl : m.1 < h.length) (ln : m.2.length = (eyesOf h m.1).length) : FL (l + 2) 42 [encH h, encM m] ts = some (.p (.bl true), ts) := by
  obtain ⟨f, e⟩ := at_lt pl
  have ee := eyes_at e
  rw [ee] at ln
  exact FL_rt rfl rfl (bx_seq (bx_ifF (bs_orF (bs_not (k := true) (bs_isi (bs_var rfl) rfl)) (bs_orF (bs_cmp (k := false) (bs_bi (bs_cn (bs_var rfl) bs_nl) rfl) bs_glb rfl) (bs_not (k := true) (bs_fn (bs_cn (bs_idx (bs_var rfl) bs_int rfl) bs_nl) f_isnum rfl)))) bx_nil)
    (bx_seq (bx_ifF (bs_orF (bs_not (k := true) (bs_in bs_int (bs_idx (bs_var rfl) bs_int rfl) (bs_bi (bs_cn (bs_var rfl) bs_nl) len_h) pl)) (bs_not (k := true) (bs_isi (bs_idx (bs_var rfl) bs_int rfl) rfl))) bx_nil)
    (bx_rt (bx_ret (bs_andT (bs_cmp (bs_bi (bs_cn (bs_idx (bs_var rfl) bs_int rfl) bs_nl) len_n) (bs_bi (bs_cn (bs_idx (bs_idx (bs_var rfl) (bs_idx (bs_var rfl) bs_int rfl) (idx_h e)) bs_glb fe) bs_nl) len_n) (eq_len ln)) (bs_allT (l := m.2) (enc := fun (n : Nat) => .int (n : Int)) (bs_sq (bs_idx (bs_var rfl) bs_int rfl) rfl) fun a ha => ⟨_, rfl, (bs_fn (bs_cn (bs_var rfl) bs_nl) f_isnum rfl)⟩)) rfl))))
theorem runC_mem {h : Hs} : ∀ {ms : List Mv} {many : List Nat}, RunC h many ms → ∀ m ∈ ms, m.1 < h.length ∧ m.2.length = (eyesOf h m.1).length
  | [], _, _, _, hm => by simp at hm
  | m :: ms, many, ro, m', hm => by
    rcases List.mem_cons.mp hm with rfl | hm
    · exact ⟨ro.1.pl, ro.1.ln⟩
    · exact runC_mem ro.2 m' hm

/-! ### is_run -/
def irBody : Stm := .seq (.ife (.brw (.not_ (.bi .all_ (.cn (.lc [6, 7] (.many [6, 7]) (.zp (.idx (.idx (.var 0) (.var 3)) (.glb "WATCHED_runs" 1)) (.var 4)) (.bl true) (.chn .le .lt (.int 0) (.var 7) (.idx (.var 2) (.var 6))) false) .nl)))) (.seq (.ret (.bl false)) .nil) .nil) (.seq (.sto 2 (.var 3) (.brw (.add (.idx (.var 2) (.var 3)) (.int 1)))) .nil)
theorem ir_loop {F : FT} {h : Hs} {ts : Tin} {x1 x y z : Option R} (ok : HsOk h) : ∀ {ms : List Mv} {many : List Nat} {a b : Option R}, many.length = h.length → RunC h many ms →
    ∃ a' b' many', forL (turn F (.many [3, 4]) irBody) (ms.map encM) [some (.p (encH h)), x1, some (.o1 (ns many)), a, b, x, y, z] ts
      = some (.nx [some (.p (encH h)), x1, many', a', b', x, y, z], ts)
  | [], many, a, b, _, _ => ⟨a, b, _, rfl⟩
  | m :: ms, many, a, b, hl, ro => by
    obtain ⟨mo, ro⟩ := ro
    obtain ⟨f, e⟩ := at_lt mo.pl
    have fo := ok.fd f (List.mem_of_getElem? e)
    have ee := eyes_at e
    obtain ⟨a', b', q', ih⟩ := ir_loop (F := F) (ts := ts) (x1 := x1) (x := x) (y := y) (z := z) ok (ms := ms) (many := bump many m.1) (a := some (.p (.int (m.1 : Nat)))) (b := some (.p (tns m.2))) (by rw [bump_len]; exact hl) ro
    refine ⟨a', b', q', ?_⟩
    have st : turn F (.many [3, 4]) irBody [some (.p (encH h)), x1, some (.o1 (ns many)), a, b, x, y, z] (encM m) ts
        = some (.nx [some (.p (encH h)), x1, some (.o1 (ns (bump many m.1))), some (.p (.int (m.1 : Nat))), some (.p (tns m.2)), x, y, z], ts) := by
      refine bturn rfl (bx_seq (bx_ifF (bs_brw (bs_not (k := true) (bs_allT (l := f.eyes.zip m.2) (enc := fun p => .tup [.int (p.1 : Nat), .int (p.2 : Nat)]) (ev_eyes rfl rfl rfl e) fun p hp => ?_)) rfl) bx_nil) (bx_seq (bx_bump (i := 2) (j := 3) rfl rfl (by rw [hl]; exact mo.pl)) bx_nil))
      have hb := mo.bd p (by rw [ee]; exact hp)
      have hq := fo.eh _ (List.of_mem_zip (show (p.1, p.2) ∈ _ from hp)).1
      exact ⟨_, rfl, bs_in bs_int (bs_var rfl) (bs_idx (bs_var rfl) (bs_var rfl) (idx_ln (getD_at (by rw [hl]; exact hq) (d := 0)))) hb⟩
    show forL _ (encM m :: ms.map encM) _ _ = _
    simp only [forL, st]
    exact ih
theorem f_isrun {l : Nat} {h : Hs} {s : St} {ms : List Mv} {ts : Tin} (ok : HsOk h) (so : StOk h s) (ro : RunOk h (firstV h s) ms) : FL (l + 6) 43 [encH h, encR s ms] ts = some (.p (.bl true), ts) := by
  have rc := runC_iff.mpr ro
  obtain ⟨a', b', q', e⟩ := ir_loop (F := FL (l + 5)) (ts := ts) (x1 := some (.p (encR s ms))) (x := none) (y := none) (z := none) ok (ms := ms) (many := lens (firstV h s)) (a := none) (b := none) lens_first rc
  exact FL_rt rfl rfl (bx_seq (bx_ifF (bs_orF (bs_not (k := true) (bs_isi (bs_var rfl) rfl)) (bs_orF (bs_cmp (k := false) (bs_bi (bs_cn (bs_var rfl) bs_nl) rfl) bs_glb rfl) (bs_not (k := true) (bs_fn (bs_cn (bs_var rfl) (bs_cn (bs_idx (bs_var rfl) bs_int rfl) bs_nl)) (f_isstart so) rfl)))) bx_nil)
    (bx_seq (bx_ifF (bs_orF (bs_not (k := true) (bs_isi (bs_idx (bs_var rfl) bs_int rfl) rfl)) (bs_not (k := true) (bs_allT (l := ms) (enc := encM) (bs_sq (bs_idx (bs_var rfl) bs_int rfl) rfl) fun a ha => ⟨_, rfl, (bs_fn (bs_cn (bs_var rfl) (bs_cn (bs_var rfl) bs_nl)) (f_form (runC_mem rc a ha).1 (runC_mem rc a ha).2) rfl)⟩))) bx_nil)
    (bx_seq (bx_asg (bs_fn (bs_cn (bs_var rfl) (bs_cn (bs_tup (bs_cn (bs_idx (bs_var rfl) bs_int rfl) (bs_cn (bs_tup bs_nl (by decide)) bs_nl)) (show 2 ≤ 1000000 by omega)) (bs_cn bs_int bs_nl))) (f_counts0 (ms := []) ok so) cl_ns) rfl)
    (bx_seq (bx_for (bs_sq (bs_idx (bs_var rfl) bs_int rfl) rfl) e)
    (bx_rt (bx_ret bs_bl rfl))))))

/-! ### is_circuit, gone -/
def icBody : Stm := .seq (.ife (.brw (.or_ (.bi .any_ (.cn (.lc [7] (.one 7) (.sq (.var 5)) (.bl true) (.cmp .lt (.var 7) (.int 0)) false) .nl)) (.cmp .is_ (.fn 40 (.cn (.var 0) (.cn (.var 3) (.cn (.var 4) (.cn (.var 5) .nl))))) .non))) (.seq (.ret (.bl false)) .nil) .nil) (.seq (.sto 3 (.var 4) (.brw (.add (.idx (.var 3) (.var 4)) (.int 1)))) .nil)
theorem ic_loop {l : Nat} {h : Hs} {ts : Tin} {x1 x2 x y : Option R} (ok : HsOk h) : ∀ {ms : List Mv} {many : List Nat} {a b : Option R}, many.length = h.length → RunC h many ms →
    ∃ a' b' many', forL (turn (FL (l + 1)) (.many [4, 5]) icBody) (ms.map encM) [some (.p (encH h)), x1, x2, some (.o1 (ns many)), a, b, x, y] ts
      = some (.nx [some (.p (encH h)), x1, x2, many', a', b', x, y], ts)
  | [], many, a, b, _, _ => ⟨a, b, _, rfl⟩
  | m :: ms, many, a, b, hl, ro => by
    obtain ⟨mo, ro⟩ := ro
    obtain ⟨a', b', q', ih⟩ := ic_loop (l := l) (ts := ts) (x1 := x1) (x2 := x2) (x := x) (y := y) ok (ms := ms) (many := bump many m.1) (a := some (.p (.int (m.1 : Nat)))) (b := some (.p (tns m.2))) (by rw [bump_len]; exact hl) ro
    refine ⟨a', b', q', ?_⟩
    have st : turn (FL (l + 1)) (.many [4, 5]) icBody [some (.p (encH h)), x1, x2, some (.o1 (ns many)), a, b, x, y] (encM m) ts
        = some (.nx [some (.p (encH h)), x1, x2, some (.o1 (ns (bump many m.1))), some (.p (.int (m.1 : Nat))), some (.p (tns m.2)), x, y], ts) := by
      refine bturn rfl (bx_seq (bx_ifF (bs_brw (r := .p (.bl false)) (bs_orF (bs_anyF (l := m.2) (enc := fun (n : Nat) => .int (n : Int)) (bs_sq (bs_var rfl) rfl) fun v hv => ⟨_, rfl, (bs_cmp (bs_var rfl) bs_int ?_)⟩) (bs_cmp (bs_fn (bs_cn (bs_var rfl) (bs_cn (bs_var rfl) (bs_cn (bs_var rfl) (bs_cn (bs_var rfl) bs_nl)))) (f_back ok hl mo) cl_tns) bs_non rfl)) rfl) bx_nil) (bx_seq (bx_bump (i := 3) (j := 4) rfl rfl (by rw [hl]; exact mo.pl)) bx_nil))
      show some (decide ((v : Int) < 0)) = _
      simp
    show forL _ (encM m :: ms.map encM) _ _ = _
    simp only [forL, st]
    exact ih
theorem f_iscirc {l : Nat} {h : Hs} {s : St} {ms sp : List Mv} {ts : Tin} (ok : HsOk h) (so : StOk h s) (hp : ∀ m ∈ ms, m.1 < h.length) (rc : RunC h (cntM (lens (firstV h s)) ms) sp) : FL (l + 3) 44 [encH h, encR s ms, encMs sp] ts = some (.p (.bl true), ts) := by
  obtain ⟨a', b', q', e⟩ := ic_loop (l := l + 1) (ts := ts) (x1 := some (.p (encR s ms))) (x2 := some (.p (encMs sp))) (x := none) (y := none) ok (ms := sp) (many := cntM (lens (firstV h s)) ms) (a := none) (b := none) (by rw [cntM_len]; exact lens_first) rc
  exact FL_rt rfl rfl (bx_seq (bx_ifF (bs_orF (bs_not (k := true) (bs_isi (bs_var rfl) rfl)) (bs_not (k := true) (bs_allT (l := sp) (enc := encM) (bs_sq (bs_var rfl) rfl) fun a ha => ⟨_, rfl, (bs_fn (bs_cn (bs_var rfl) (bs_cn (bs_var rfl) bs_nl)) (f_form (runC_mem rc a ha).1 (runC_mem rc a ha).2) rfl)⟩))) bx_nil)
    (bx_seq (bx_asg (bs_fn (bs_cn (bs_var rfl) (bs_cn (bs_var rfl) (bs_cn (bs_bi (bs_cn (bs_idx (bs_var rfl) bs_int rfl) bs_nl) len_tm) bs_nl))) (f_countsN ok so hp) cl_ns) rfl)
    (bx_seq (bx_for (bs_sq (bs_var rfl) rfl) e)
    (bx_rt (bx_ret bs_bl rfl)))))
theorem plm {k : Nat} {m : Mv} : pl (k + 2) (encM m) = true := by
  simp only [encM]; rw [pl]
  simp only [List.all_cons, List.all_nil, pln, Bool.and_true]; rfl
theorem tpm {k : Nat} {m : Mv} : tp (k + 2) (encM m) = encM m := by
  simp only [encM]; rw [tp]
  simp only [List.map_cons, List.map_nil, tpn]; rfl
theorem plms {k : Nat} {ms : List Mv} : pl (k + 3) (encMs ms) = true := by
  simp only [encMs]; rw [pl]
  simp only [List.all_map, List.all_eq_true]
  intro a _; exact plm
theorem tpms {k : Nat} {ms : List Mv} : tp (k + 3) (encMs ms) = encMs ms := by
  simp only [encMs]; rw [tp]
  simp only [List.map_map, D.tup.injEq]
  apply List.map_congr_left
  intro a _; exact tpm
theorem plt {k : Nat} {xs : List (List Nat)} : pl (k + 2) (.tup (xs.map tns)) = true := by
  rw [pl]
  simp only [List.all_map, List.all_eq_true]
  intro a _; exact pln
theorem tpt {k : Nat} {xs : List (List Nat)} : tp (k + 2) (.tup (xs.map tns)) = .tup (xs.map tns) := by
  rw [tp]
  simp only [List.map_map, D.tup.injEq]
  apply List.map_congr_left
  intro a _; exact tpn
theorem pls_ {k : Nat} {s : St} : pl (k + 3) (encS s) = true := by
  simp only [encS]; rw [pl]
  simp only [List.all_cons, List.all_nil, pln, plt, Bool.and_self]
theorem tps_ {k : Nat} {s : St} : tp (k + 3) (encS s) = encS s := by
  simp only [encS]; rw [tp]
  simp only [List.map_cons, List.map_nil, tpn, tpt]
theorem plr {k : Nat} {s : St} {ms : List Mv} : pl (k + 4) (encR s ms) = true := by
  simp only [encR]; rw [pl]
  simp only [List.all_cons, List.all_nil, pls_, plms, Bool.and_self]
theorem tpr {k : Nat} {s : St} {ms : List Mv} : tp (k + 4) (encR s ms) = encR s ms := by
  simp only [encR]; rw [tp]
  simp only [List.map_cons, List.map_nil, tps_, tpms]
theorem cl_s {s : St} : (encS s).nl = true := nls_cons cl_tns (nls_cons (clean_map fun _ => cl_tns) rfl)
theorem cl_r {s : St} {ms : List Mv} : (encR s ms).nl = true := nls_cons cl_s (nls_cons cl_ms rfl)
theorem f_tupr {l : Nat} {s : St} {ms : List Mv} {ts : Tin} : FL (l + 5) 2 [encR s ms] ts = some (.p (encR s ms), ts) := by
  have := f_tupled (l := l) (k := 4) (d := encR s ms) (ts := ts) plr
  rwa [tpr] at this
theorem f_tupms {l : Nat} {ms : List Mv} {ts : Tin} : FL (l + 4) 2 [encMs ms] ts = some (.p (encMs ms), ts) := by
  have := f_tupled (l := l) (k := 3) (d := encMs ms) (ts := ts) plms
  rwa [tpms] at this
theorem f_tups {l : Nat} {s : St} {ts : Tin} : FL (l + 4) 2 [encS s] ts = some (.p (encS s), ts) := by
  have := f_tupled (l := l) (k := 3) (d := encS s) (ts := ts) pls_
  rwa [tps_] at this
def goBody : Stm := .seq (.app 3 (.brw (.tup (.cn (.var 5) (.cn (.fn 40 (.cn (.var 0) (.cn (.var 4) (.cn (.var 5) (.cn (.var 6) .nl))))) .nl))))) (.seq (.sto 4 (.var 5) (.brw (.add (.idx (.var 4) (.var 5)) (.int 1)))) .nil)
theorem go_loop {l : Nat} {h : Hs} {ts : Tin} {x1 x2 x y : Option R} (ok : HsOk h) : ∀ {ms : List Mv} {many : List Nat} {fd : List Mv} {a b : Option R}, many.length = h.length → RunC h many ms → fd.length + ms.length ≤ 100000 →
    ∃ a' b' many', forL (turn (FL (l + 1)) (.many [5, 6]) goBody) (ms.map encM) [some (.p (encH h)), x1, x2, some (.o1 (fd.map encM)), some (.o1 (ns many)), a, b, x, y] ts
      = some (.nx [some (.p (encH h)), x1, x2, some (.o1 ((fd ++ flipV h many ms).map encM)), many', a', b', x, y], ts)
  | [], many, fd, a, b, _, _, _ => ⟨a, b, _, by rw [flipV, List.append_nil]; rfl⟩
  | m :: ms, many, fd, a, b, hl, ro, lf => by
    obtain ⟨mo, ro⟩ := ro
    simp only [List.length_cons] at lf
    obtain ⟨a', b', q', ih⟩ := go_loop (l := l) (ts := ts) (x1 := x1) (x2 := x2) (x := x) (y := y) ok (ms := ms) (many := bump many m.1) (fd := fd ++ [flip1 h many m]) (a := some (.p (.int (m.1 : Nat)))) (b := some (.p (tns m.2))) (by rw [bump_len]; exact hl) ro (by simp; omega)
    refine ⟨a', b', q', ?_⟩
    have st : turn (FL (l + 1)) (.many [5, 6]) goBody [some (.p (encH h)), x1, x2, some (.o1 (fd.map encM)), some (.o1 (ns many)), a, b, x, y] (encM m) ts
        = some (.nx [some (.p (encH h)), x1, x2, some (.o1 ((fd ++ [flip1 h many m]).map encM)), some (.o1 (ns (bump many m.1))), some (.p (.int (m.1 : Nat))), some (.p (tns m.2)), x, y], ts) := by
      have e2 : (fd ++ [flip1 h many m]).map encM = fd.map encM ++ [.tup [.int (m.1 : Nat), tns (flip1 h many m).2]] := by rw [List.map_append]; rfl
      rw [e2]
      exact bturn rfl (bx_seq (bx_app (bs_brw (r := .p (.tup [.int (m.1 : Nat), tns (flip1 h many m).2])) (bs_tup (bs_cn (bs_var rfl) (bs_cn (bs_fn (bs_cn (bs_var rfl) (bs_cn (bs_var rfl) (bs_cn (bs_var rfl) (bs_cn (bs_var rfl) bs_nl)))) (f_back ok hl mo) cl_tns) bs_nl)) (show 2 ≤ 1000000 by omega)) (cl_m (m := flip1 h many m))) rfl (by rw [List.length_map]; show _ < 1000000; omega)) (bx_seq (bx_bump (i := 4) (j := 5) rfl rfl (by rw [hl]; exact mo.pl)) bx_nil))
    show forL _ (encM m :: ms.map encM) _ _ = _
    simp only [forL, st]
    rw [flipV, show fd ++ flip1 h many m :: flipV h (bump many m.1) ms = fd ++ [flip1 h many m] ++ flipV h (bump many m.1) ms by simp]
    exact ih
def goneV (h : Hs) (s : St) (ms sp : List Mv) : List Mv := ms ++ flipV h (cntM (lens (firstV h s)) ms) sp
theorem f_gone {l : Nat} {h : Hs} {s : St} {ms sp : List Mv} {ts : Tin} (ok : HsOk h) (so : StOk h s) (hp : ∀ m ∈ ms, m.1 < h.length) (rc : RunC h (cntM (lens (firstV h s)) ms) sp) (lo : ms.length + sp.length ≤ 90000) : FL (l + 6) 41 [encH h, encR s ms, encMs sp] ts = some (.p (encR s (goneV h s ms sp)), ts) := by
  obtain ⟨a', b', q', e⟩ := go_loop (l := l + 4) (ts := ts) (x1 := some (.p (encR s ms))) (x2 := some (.p (encMs sp))) (x := some (.p (encS s))) (y := some (.p (encMs ms))) ok (ms := sp) (many := cntM (lens (firstV h s)) ms) (fd := ms) (a := none) (b := none) (by rw [cntM_len]; exact lens_first) rc (by omega)
  exact FL_rt rfl rfl (bx_seq (bx_par3 (bs_fn (bs_cn (bs_var rfl) (bs_cn (bs_var rfl) (bs_cn (bs_bi (bs_cn (bs_idx (bs_var rfl) bs_int rfl) bs_nl) len_tm) bs_nl))) (f_countsN ok so hp) cl_ns) (bs_fn (bs_cn (bs_var rfl) bs_nl) f_tupr cl_r))
    (bx_seq (bx_ifF (bs_not (k := true) (bs_fn (bs_cn (bs_var rfl) (bs_cn (bs_var rfl) (bs_cn (bs_fn (bs_cn (bs_var rfl) bs_nl) f_tupms cl_ms) bs_nl))) (f_iscirc ok so hp rc) rfl)) bx_nil)
    (bx_seq (bx_asg (bs_bi (bs_cn (bs_var rfl) bs_nl) rfl) rfl)
    (bx_seq (bx_for (bs_sq (bs_var rfl) rfl) e)
    (bx_rt (bx_ret (bs_brw (bs_tup (bs_cn (bs_var rfl) (bs_cn (bs_bi (r := .p (encMs (goneV h s ms sp))) (bs_cn (bs_var rfl) bs_nl) rfl) bs_nl)) (show 2 ≤ 1000000 by omega)) (cl_r (s := s))) (cl_r (s := s))))))))
end Lt.Mt

namespace Lt.Mt
open PySem

/-! ### depths -/
def dep1 (fd : List Nat) (p : Nat × Nat) : List Nat := fd.set p.1 (max (fd.getD p.1 0) (p.2 + 1))
def depM (h : Hs) (fd : List Nat) (m : Mv) : List Nat := ((eyesOf h m.1).zip m.2).foldl dep1 fd
def depV (h : Hs) (fd : List Nat) (sp : List Mv) : List Nat := sp.foldl (depM h) fd
theorem dep1_len {fd : List Nat} {p : Nat × Nat} : (dep1 fd p).length = fd.length := by simp [dep1]
theorem dep_len : ∀ {ps : List (Nat × Nat)} {fd : List Nat}, (ps.foldl dep1 fd).length = fd.length
  | [], _ => rfl
  | p :: ps, fd => by rw [List.foldl_cons, dep_len, dep1_len]
theorem depV_len {h : Hs} : ∀ {sp : List Mv} {fd : List Nat}, (depV h fd sp).length = fd.length
  | [], _ => rfl
  | m :: sp, fd => by
    show (depV h (depM h fd m) sp).length = _
    rw [depV_len]; exact dep_len
def dpIn : Stm := .seq (.sto 2 (.var 5) (.brw (.bi .max2 (.cn (.idx (.var 2) (.var 5)) (.cn (.add (.var 6) (.int 1)) .nl))))) .nil
def dpBody (x : Tm) : Stm := .seq (.for_ (.many [5, 6]) (.zp (.idx (.idx (.var 0) (.var 3)) x) (.var 4)) dpIn) .nil
theorem max2_n {a b : Nat} : max2D [.int (a : Nat), .int (b : Nat)] = some (.p (.int ((max a b : Nat) : Int))) := by
  simp only [max2D]
  congr 3
  split <;> omega
theorem dp_in {F : FT} {ts : Tin} {x0 x1 x3 x4 : Option R} {z : Env} : ∀ {ps : List (Nat × Nat)} {fd : List Nat} {a b : Option R}, (∀ p ∈ ps, p.1 < fd.length) →
    ∃ a' b', forL (turn F (.many [5, 6]) dpIn) (ps.map fun p => .tup [.int (p.1 : Nat), .int (p.2 : Nat)]) (x0 :: x1 :: some (.o1 (ns fd)) :: x3 :: x4 :: a :: b :: z) ts = some (.nx (x0 :: x1 :: some (.o1 (ns (ps.foldl dep1 fd))) :: x3 :: x4 :: a' :: b' :: z), ts)
  | [], fd, a, b, _ => ⟨a, b, rfl⟩
  | p :: ps, fd, a, b, h => by
    have hp := h p (by simp)
    obtain ⟨a', b', ih⟩ := dp_in (F := F) (ts := ts) (x0 := x0) (x1 := x1) (x3 := x3) (x4 := x4) (z := z) (ps := ps) (fd := dep1 fd p) (a := some (.p (.int (p.1 : Nat)))) (b := some (.p (.int (p.2 : Nat)))) (fun q hq => by rw [dep1_len]; exact h q (by simp [hq]))
    refine ⟨a', b', ?_⟩
    have st : turn F (.many [5, 6]) dpIn (x0 :: x1 :: some (.o1 (ns fd)) :: x3 :: x4 :: a :: b :: z) (.tup [.int (p.1 : Nat), .int (p.2 : Nat)]) ts = some (.nx (x0 :: x1 :: some (.o1 (ns (dep1 fd p))) :: x3 :: x4 :: some (.p (.int (p.1 : Nat))) :: some (.p (.int (p.2 : Nat))) :: z), ts) := by
      refine bturn rfl (bx_seq (bx_sto (r := .o1 (ns fd)) (r' := .o1 (ns (dep1 fd p))) (bs_brw (r := .p (.int ((max (fd.getD p.1 0) (p.2 + 1) : Nat) : Int))) (bs_bi (bs_cn (bs_idx (bs_var rfl) (bs_var rfl) (idx_ln (getD_at hp (d := 0)))) (bs_cn (bs_add (bs_var rfl) bs_int rfl) bs_nl)) (max2_n (b := p.2 + 1))) rfl) (bs_var rfl) rfl (by simp) ?_) bx_nil)
      show (L2.ixN (ns fd).length (p.1 : Int)).map _ = _
      rw [ns_len, ixN_nat hp]
      show some (R.o1 ((ns fd).set p.1 (.int ((max (fd.getD p.1 0) (p.2 + 1) : Nat) : Int)))) = _
      rw [set_int]; rfl
    show forL _ (D.tup [.int (p.1 : Nat), .int (p.2 : Nat)] :: ps.map _) _ _ = _
    simp only [forL, st]
    exact ih
theorem dp_loop {F : FT} {h : Hs} {ts : Tin} {x1 : Option R} {z : Env} {x : Tm} (ok : HsOk h) (hx : ∀ ρ ts, ev F x ρ ts = some (.p (.int 1), ts)) : ∀ {sp : List Mv} {fd : List Nat} {a b c d : Option R}, fd.length = h.length → (∀ m ∈ sp, m.1 < h.length) →
    ∃ a' b' c' d', forL (turn F (.many [3, 4]) (dpBody x)) (sp.map encM) (some (.p (encH h)) :: x1 :: some (.o1 (ns fd)) :: a :: b :: c :: d :: z) ts = some (.nx (some (.p (encH h)) :: x1 :: some (.o1 (ns (depV h fd sp))) :: a' :: b' :: c' :: d' :: z), ts)
  | [], fd, a, b, c, d, _, _ => ⟨a, b, c, d, rfl⟩
  | m :: sp, fd, a, b, c, d, hl, hm => by
    have hj := hm m (by simp)
    obtain ⟨f, e⟩ := at_lt hj
    have fo := ok.fd f (List.mem_of_getElem? e)
    have ee := eyes_at e
    obtain ⟨c1, d1, e1⟩ := dp_in (F := F) (ts := ts) (x0 := some (.p (encH h))) (x1 := x1) (x3 := some (.p (.int (m.1 : Nat)))) (x4 := some (.p (tns m.2))) (z := z) (ps := f.eyes.zip m.2) (fd := fd) (a := c) (b := d) (fun p hp => by rw [hl]; exact fo.eh _ (List.of_mem_zip (show (p.1, p.2) ∈ _ from hp)).1)
    obtain ⟨a', b', c', d', ih⟩ := dp_loop (ts := ts) (x1 := x1) (z := z) ok hx (sp := sp) (fd := depM h fd m) (a := some (.p (.int (m.1 : Nat)))) (b := some (.p (tns m.2))) (c := c1) (d := d1) (by rw [depM, dep_len]; exact hl) (fun q hq => hm q (by simp [hq]))
    refine ⟨a', b', c', d', ?_⟩
    have st : turn F (.many [3, 4]) (dpBody x) (some (.p (encH h)) :: x1 :: some (.o1 (ns fd)) :: a :: b :: c :: d :: z) (encM m) ts = some (.nx (some (.p (encH h)) :: x1 :: some (.o1 (ns (depM h fd m))) :: some (.p (.int (m.1 : Nat))) :: some (.p (tns m.2)) :: c1 :: d1 :: z), ts) := by
      rw [← zip_nn] at e1
      rw [depM, ee]
      exact bturn rfl (bx_seq (bx_for (bs_zp (bs_idx (bs_idx (bs_var rfl) (bs_var rfl) (idx_h e)) (hx _ _) fe) (bs_var rfl) rfl rfl) e1) bx_nil)
    show forL _ (encM m :: sp.map encM) _ _ = _
    simp only [forL, st]
    exact ih
def ones (h : Hs) : List Nat := List.replicate h.length 1
theorem ones_len {h : Hs} : (ones h).length = h.length := by simp [ones]
theorem ns_ones {h : Hs} : ns (ones h) = h.map fun _ => D.int 1 := by
  simp only [ns, ones, List.map_replicate, List.map_const']
  rfl
theorem f_depths {l : Nat} {h : Hs} {sp : List Mv} {ts : Tin} (ok : HsOk h) (hp : ∀ m ∈ sp, m.1 < h.length) : FL (l + 1) 45 [encH h, encMs sp] ts = some (.o1 (ns (depV h (ones h) sp)), ts) := by
  obtain ⟨a', b', c', d', e⟩ := dp_loop (F := FL l) (ts := ts) (x1 := some (.p (encMs sp))) (z := [none]) (x := .glb "WATCHED_runs" 1) ok (fun _ _ => bs_glb) (sp := sp) (fd := ones h) (a := none) (b := none) (c := none) (d := none) ones_len hp
  exact FL_rt rfl rfl (bx_seq (bx_asg (r := .o1 (ns (ones h))) (by rw [ns_ones]; exact bs_lc (l := h) (enc := encF) (fun _ => .int 1) (bs_sq (bs_var rfl) rfl) fun a ha => ⟨_, _, rfl, bs_int, rfl⟩) rfl) (bx_seq (bx_for (bs_sq (bs_var rfl) rfl) e) (bx_rt (bx_retv rfl cl_ns))))
theorem f_deep {l : Nat} {h : Hs} {sp : List Mv} {ts : Tin} (ok : HsOk h) (hp : ∀ m ∈ sp, m.1 < h.length) : FL (l + 1) 69 [encH h, encMs sp] ts = some (.o1 (ns (depV h (ones h) sp)), ts) := by
  obtain ⟨a', b', c', d', e⟩ := dp_loop (F := FL l) (ts := ts) (x1 := some (.p (encMs sp))) (z := []) (x := .int 1) ok (fun _ _ => bs_int) (sp := sp) (fd := ones h) (a := none) (b := none) (c := none) (d := none) ones_len hp
  exact FL_rt rfl rfl (bx_seq (bx_asg (r := .o1 (ns (ones h))) (by rw [ns_ones]; exact bs_lc (l := h) (enc := encF) (fun _ => .int 1) (bs_sq (bs_var rfl) rfl) fun a ha => ⟨_, _, rfl, bs_int, rfl⟩) rfl) (bx_seq (bx_for (bs_sq (bs_var rfl) rfl) e) (bx_rt (bx_retv rfl cl_ns))))

/-! ### a dict of places -/
def dcT (F : FT) (own : List Nat) (tg : Tg) (kx vx : Tm) (ρ : Env) : D → Ev (Int × D) := fun x ts => match setTg (wipeE ρ own) tg x with
  | none => none
  | some ρ1 => match ev F kx ρ1 ts with
    | some (.p (.int k), ts2) => match ev F vx ρ1 ts2 with
      | some (r, ts3) => if r.fz.nl then some ((k, r.fz), ts3) else none
      | none => none
    | _ => none
theorem bs_dc {F : FT} {ρ : Env} {ts ts1 ts2 : Tin} {own : List Nat} {tg : Tg} {it kx vx : Tm} {xs : List D} {d : D} (hi : evI F it ρ ts = some (xs, ts1)) (hd : dcL (dcT F own tg kx vx ρ) xs [] [] ts1 = some (d, ts2)) : ev F (.dc own tg it kx vx) ρ ts = some (.p d, ts2) := by
  have e : ev F (.dc own tg it kx vx) ρ ts = match evI F it ρ ts with
    | some (xs, ts1) => match dcL (dcT F own tg kx vx ρ) xs [] [] ts1 with
      | some (d, ts2) => some (.p d, ts2)
      | none => none
    | none => none := by rw [ev]; rfl
  rw [e, hi]
  simp only [hd]
theorem dcT_one {F : FT} {ρ ρ1 : Env} {ts ts1 ts2 : Tin} {own : List Nat} {tg : Tg} {kx vx : Tm} {x : D} {k : Int} {r : R} (h1 : setTg (wipeE ρ own) tg x = some ρ1) (h2 : ev F kx ρ1 ts = some (.p (.int k), ts1)) (h3 : ev F vx ρ1 ts1 = some (r, ts2)) (cl : r.fz.nl = true) : dcT F own tg kx vx ρ x ts = some ((k, r.fz), ts2) := by
  simp only [dcT, h1, h2, h3, cl, if_true]
theorem putD_mem {ks : List Int} {vs : List D} {k : Int} {v : D} : k ∈ (putD ks vs k v).1 ∧ ∀ j ∈ ks, j ∈ (putD ks vs k v).1 := by
  unfold putD
  split
  · rename_i hk; exact ⟨hk, fun _ h => h⟩
  · exact ⟨by simp, fun j hj => by simp [hj]⟩
theorem dc_places {f : D → Ev (Int × D)} {ts : Tin} : ∀ {sp : List Mv} {ks : List Int} {vs : List D}, (∀ m ∈ sp, f (encM m) ts = some ((((m.1 : Nat) : Int), tns m.2), ts)) → ∃ ks' vs', dcL f (sp.map encM) ks vs ts = some (.dct ks' vs', ts) ∧ (∀ k ∈ ks, k ∈ ks') ∧ ∀ m ∈ sp, ((m.1 : Nat) : Int) ∈ ks'
  | [], ks, vs, _ => ⟨ks, vs, rfl, fun _ h => h, by simp⟩
  | m :: sp, ks, vs, h => by
    obtain ⟨ks', vs', e, h1, h2⟩ := dc_places (f := f) (ts := ts) (sp := sp) (ks := (putD ks vs (m.1 : Nat) (tns m.2)).1) (vs := (putD ks vs (m.1 : Nat) (tns m.2)).2) fun q hq => h q (by simp [hq])
    have hm := h m (by simp)
    have pm := putD_mem (ks := ks) (vs := vs) (k := ((m.1 : Nat) : Int)) (v := tns m.2)
    refine ⟨ks', vs', ?_, fun k hk => h1 k (pm.2 k hk), fun q hq => ?_⟩
    · simp only [List.map_cons, dcL, hm]; exact e
    · rcases List.mem_cons.mp hq with rfl | hq
      · exact h1 _ pm.1
      · exact h2 q hq
theorem pigeon : ∀ {n : Nat} {ks : List Int}, (∀ j, j < n → ((j : Nat) : Int) ∈ ks) → n ≤ ks.length
  | 0, _, _ => Nat.zero_le _
  | n + 1, ks, h => by
    have h1 := h n (by omega)
    have := pigeon (n := n) (ks := ks.erase ((n : Nat) : Int)) fun j hj => (List.mem_erase_of_ne (by omega)).mpr (h j (by omega))
    rw [List.length_erase_of_mem h1] at this
    have : 0 < ks.length := List.length_pos_of_mem h1
    omega

/-! ### is_lap -/
def tl (d : Nat) (xs : List Nat) : List Nat := xs.drop (xs.length - d)
theorem cut_neg {α : Type} {xs : List α} {n : Nat} (h : 0 < n) : cutL xs (some (-(n : Int))) none = xs.drop (xs.length - n) := by
  have e : HT.sIx xs.length 0 (some (-(n : Int))) = xs.length - n := by
    show (if -(n : Int) < 0 then (-(n : Int) + (xs.length : Int)).toNat else min (-(n : Int)).toNat xs.length) = _
    rw [if_pos (by omega)]; omega
  simp only [cutL, e, HT.sIx_none]
  rw [List.take_of_length_le (by rw [List.length_drop]; omega)]
theorem slc_neg {xs : List Nat} {n : Nat} (h : 0 < n) : slcD (encV xs) (some (-(n : Int))) none = some (.o1 (ns (tl n xs))) := by
  show some (R.o1 (cutL (ns xs) (some (-(n : Int))) none)) = _
  rw [cut_neg h, ns_len, tl]
  simp [ns, List.map_drop]
structure LapOk (h : Hs) (s : St) (ms sp : List Mv) : Prop where
  ro : RunOk h (firstV h s) ms
  rc : RunC h (cntM (lens (firstV h s)) ms) sp
  all : ∀ j, j < h.length → ∃ m ∈ sp, m.1 = j
  dp : ∀ j, j < h.length → 0 < (depV h (ones h) sp).getD j 0 ∧ (depV h (ones h) sp).getD j 0 ≤ ((versV h (firstV h s) ms).getD j []).length ∧ tl ((depV h (ones h) sp).getD j 0) ((versV h (firstV h s) ms).getD j []) = tl ((depV h (ones h) sp).getD j 0) ((versV h (firstV h s) (goneV h s ms sp)).getD j [])
theorem versV_len {h : Hs} : ∀ {ms : List Mv} {rows : List (List Nat)}, (versV h rows ms).length = rows.length
  | [], _ => rfl
  | m :: ms, rows => by
    show (versV h (stepV h rows m) ms).length = _
    rw [versV_len]; simp [stepV]
def laBody : Stm := .seq (.ife (.or_ (.cmp .lt (.bi .len (.cn (.idx (.var 4) (.var 6)) .nl)) (.var 7)) (.cmp .ne (.slc (.idx (.var 4) (.var 6)) (.sm (.neg (.var 7))) .nl) (.slc (.idx (.var 5) (.var 6)) (.sm (.neg (.var 7))) .nl))) (.seq (.ret (.bl false)) .nil) .nil) .nil
theorem la_loop {F : FT} {ts : Tin} {x0 x1 x2 x3 x8 x9 : Option R} {A B : List (List Nat)} : ∀ {ps : List (Nat × Nat)} {a b : Option R}, (∀ p ∈ ps, p.2 < A.length ∧ p.2 < B.length ∧ 0 < p.1 ∧ p.1 ≤ (A.getD p.2 []).length ∧ tl p.1 (A.getD p.2 []) = tl p.1 (B.getD p.2 [])) →
    ∃ a' b', forL (turn F (.many [6, 7]) laBody) (ps.map fun p => .tup [.int (p.2 : Nat), .int (p.1 : Nat)]) [x0, x1, x2, x3, some (.p (encVs A)), some (.p (encVs B)), a, b, x8, x9] ts = some (.nx [x0, x1, x2, x3, some (.p (encVs A)), some (.p (encVs B)), a', b', x8, x9], ts)
  | [], a, b, _ => ⟨a, b, rfl⟩
  | p :: ps, a, b, h => by
    obtain ⟨h1, h2, h3, h4, h5⟩ := h p (by simp)
    obtain ⟨a', b', ih⟩ := la_loop (F := F) (ts := ts) (x0 := x0) (x1 := x1) (x2 := x2) (x3 := x3) (x8 := x8) (x9 := x9) (A := A) (B := B) (ps := ps) (a := some (.p (.int (p.2 : Nat)))) (b := some (.p (.int (p.1 : Nat)))) (fun q hq => h q (by simp [hq]))
    refine ⟨a', b', ?_⟩
    have st : turn F (.many [6, 7]) laBody [x0, x1, x2, x3, some (.p (encVs A)), some (.p (encVs B)), a, b, x8, x9] (.tup [.int (p.2 : Nat), .int (p.1 : Nat)]) ts = some (.nx [x0, x1, x2, x3, some (.p (encVs A)), some (.p (encVs B)), some (.p (.int (p.2 : Nat))), some (.p (.int (p.1 : Nat))), x8, x9], ts) := by
      refine bturn rfl (bx_seq (bx_ifF (bs_orF (bs_cmp (bs_bi (bs_cn (bs_idx (d := encV (A.getD p.2 [])) (bs_var rfl) (bs_var rfl) (idx_l (getD_at h1))) bs_nl) len_lm) (bs_var rfl) ?_) (bs_cmp (bs_slc (bs_idx (d := encV (A.getD p.2 [])) (bs_var rfl) (bs_var rfl) (idx_l (getD_at h1))) (bs_sm (bs_neg (bs_var rfl) rfl)) bs_nlO (slc_neg h3)) (bs_slc (bs_idx (d := encV (B.getD p.2 [])) (bs_var rfl) (bs_var rfl) (idx_l (getD_at h2))) (bs_sm (bs_neg (bs_var rfl) rfl)) bs_nlO (slc_neg h3)) ?_)) bx_nil) bx_nil)
      · show cmpD .lt (.int ((A.getD p.2 []).length : Nat)) (.int (p.1 : Nat)) = _
        rw [lt_n]; congr 1; exact decide_eq_false (by omega)
      · show cmpD .ne (.lst (ns _)) (.lst (ns _)) = _
        rw [ne_lns, h5]; simp
    show forL _ (D.tup [.int (p.2 : Nat), .int (p.1 : Nat)] :: ps.map _) _ _ = _
    simp only [forL, st]
    exact ih
theorem f_islap {l : Nat} {h : Hs} {s : St} {ms sp : List Mv} {ts : Tin} (ok : HsOk h) (so : StOk h s) (lo : LapOk h s ms sp) (ro2 : RunOk h (firstV h s) (goneV h s ms sp)) (ln : ms.length + sp.length ≤ 90000) (ln2 : (goneV h s ms sp).length ≤ 90000) : FL (l + 7) 46 [encH h, .tup [encR s ms, encMs sp]] ts = some (.p (.bl true), ts) := by
  have hp := run_pl lo.ro
  have hs : ∀ m ∈ sp, m.1 < h.length := fun m hm => (runC_mem lo.rc m hm).1
  obtain ⟨ks, vs, e1, _, e2⟩ := dc_places (f := dcT (FL (l + 6)) [8, 9] (.many [8, 9]) (.var 8) (.var 9) [some (.p (encH h)), some (.p (.tup [encR s ms, encMs sp])), some (.p (encR s ms)), some (.p (encMs sp)), none, none, none, none, none, none]) (ts := ts) (sp := sp) (ks := []) (vs := []) fun m hm => dcT_one rfl (bs_var rfl) (bs_var rfl) cl_tns
  have e3 : h.length ≤ ks.length := pigeon fun j hj => by
    obtain ⟨m, hm, rfl⟩ := lo.all j hj
    exact e2 m hm
  obtain ⟨a', b', e4⟩ := la_loop (F := FL (l + 6)) (ts := ts) (x0 := some (.p (encH h))) (x1 := some (.p (.tup [encR s ms, encMs sp]))) (x2 := some (.p (encR s ms))) (x3 := some (.p (encMs sp))) (x8 := none) (x9 := none) (A := versV h (firstV h s) ms) (B := versV h (firstV h s) (goneV h s ms sp)) (ps := (depV h (ones h) sp).zipIdx) (a := none) (b := none) (by
    intro p hp2
    have e := List.mem_zipIdx_iff_getElem?.mp hp2
    have h1 := (List.getElem?_eq_some_iff.mp e).1
    have hj : p.2 < h.length := by rw [depV_len, ones_len] at h1; exact h1
    have eg : (depV h (ones h) sp).getD p.2 0 = p.1 := by rw [List.getD_eq_getElem?_getD, e]; rfl
    have := lo.dp p.2 hj
    rw [eg] at this
    exact ⟨by rw [versV_len, firstV_len]; exact hj, by rw [versV_len, firstV_len]; exact hj, this⟩)
  refine FL_rt rfl rfl (bx_seq (bx_ifF (bs_orF (bs_not (k := true) (bs_isi (bs_var rfl) rfl)) (bs_orF (bs_cmp (k := false) (bs_bi (bs_cn (bs_var rfl) bs_nl) rfl) bs_glb rfl) (bs_not (k := true) (bs_fn (bs_cn (bs_var rfl) (bs_cn (bs_idx (bs_var rfl) bs_int rfl) bs_nl)) (f_isrun ok so lo.ro) rfl)))) bx_nil)
    (bx_seq (bx_unp (bs_var rfl) rfl)
    (bx_seq (bx_ifF (bs_orF (bs_not (k := true) (bs_fn (bs_cn (bs_var rfl) (bs_cn (bs_var rfl) (bs_cn (bs_var rfl) bs_nl))) (f_iscirc ok so hp lo.rc) rfl)) (bs_cmp (bs_bi (r := .p (.int (ks.length : Nat))) (bs_cn (bs_dc (bs_sq (bs_var rfl) rfl) e1) bs_nl) rfl) (bs_bi (bs_cn (bs_var rfl) bs_nl) len_h) ?_)) bx_nil)
    (bx_seq (bx_par (bs_fn (bs_cn (bs_var rfl) (bs_cn (bs_var rfl) bs_nl)) (f_versin ok so lo.ro (by omega)) cl_o2) (bs_fn (bs_cn (bs_var rfl) (bs_cn (bs_fn (bs_cn (bs_var rfl) (bs_cn (bs_var rfl) (bs_cn (bs_var rfl) bs_nl))) (f_gone ok so hp lo.rc ln) cl_r) bs_nl)) (f_versin ok so ro2 ln2) cl_o2) rfl rfl)
    (bx_seq (bx_for (enm_l (enc := fun (n : Nat) => .int (n : Int)) (xs := depV h (ones h) sp) (bs_fn (bs_cn (bs_var rfl) (bs_cn (bs_var rfl) bs_nl)) (f_depths ok hs) cl_ns) rfl) (by rw [fz_o2, fz_o2]; exact e4))
    (bx_rt (bx_ret bs_bl rfl)))))))
  show cmpD .lt (.int (ks.length : Nat)) (.int (h.length : Nat)) = _
  rw [lt_n]; congr 1; exact decide_eq_false (by omega)

/-! ### swings -/
def cirV (h : Hs) (s : St) (ms sp : List Mv) : List (List Nat) := (stsV h (firstV h s) s.st (goneV h s ms sp)).drop ms.length
def swgV (h : Hs) (s : St) (ms sp : List Mv) : Bool := (cirV h s ms sp).any fun x => decide (x ≠ (cirV h s ms sp).getD 0 [])
theorem f_swings {l : Nat} {h : Hs} {s : St} {ms sp : List Mv} {ts : Tin} (ok : HsOk h) (so : StOk h s) (ro : RunOk h (firstV h s) ms) (rc : RunC h (cntM (lens (firstV h s)) ms) sp) (ro2 : RunOk h (firstV h s) (goneV h s ms sp)) (ln : ms.length + sp.length ≤ 90000) (ln2 : (goneV h s ms sp).length ≤ 90000) (ln3 : ms.length ≤ (goneV h s ms sp).length) : FL (l + 8) 48 [encH h, .tup [encR s ms, encMs sp]] ts = some (.p (.bl (swgV h s ms sp)), ts) := by
  have e1 : FL (l + 7) 47 [encH h, .tup [encR s ms, encMs sp]] ts = some (.o1 ((cirV h s ms sp).map tns), ts) := by
    refine FL_rt rfl rfl (bx_seq (bx_unp (bs_var rfl) rfl)
      (bx_rt (bx_ret (bs_slc (bs_fn (bs_cn (bs_var rfl) (bs_cn (bs_fn (bs_cn (bs_var rfl) (bs_cn (bs_var rfl) (bs_cn (bs_var rfl) bs_nl))) (f_gone ok so (run_pl ro) rc ln) cl_r) bs_nl)) (f_states ok so ro2 ln2) (clean_map fun _ => cl_tns)) (bs_sm (bs_bi (bs_cn (bs_idx (bs_var rfl) bs_int rfl) bs_nl) len_tm)) bs_nlO ?_) (clean_map fun _ => cl_tns))))
    show some (R.o1 (cutL _ _ _)) = _
    rw [cut_d, cirV, List.map_drop]
  have ne : 0 < (cirV h s ms sp).length := by rw [cirV, List.length_drop, stsV_len]; omega
  refine FL_rt rfl rfl (bx_seq (bx_asg (bs_fn (bs_cn (bs_var rfl) (bs_cn (bs_var rfl) bs_nl)) e1 (clean_map fun _ => cl_tns)) rfl)
    (bx_rt (bx_ret (bs_any (l := cirV h s ms sp) (enc := tns) (fun x => decide (x ≠ (cirV h s ms sp).getD 0 [])) (bs_sq (bs_var rfl) rfl) fun a ha => ⟨_, rfl, (bs_cmp (bs_var rfl) (bs_idx (d := tns ((cirV h s ms sp).getD 0 [])) (bs_var rfl) bs_int (idx_l (i := 0) (getD_at ne))) ne_tns)⟩) rfl)))
end Lt.Mt

namespace Lt.Mt
open PySem

/-! ### cut_run -/
def seeN (h : Hs) (nums : List (List Nat)) (m : Mv) : List Nat := seenV h nums m.1 m.2
def stay (nums : List (List Nat)) (j : Nat) : List (List Nat) := nums.set j (nums.getD j [] ++ [(nums.getD j []).getLastD 0])
def goOn (nums : List (List Nat)) (many : List Nat) (j : Nat) : List (List Nat) := nums.set j (nums.getD j [] ++ [many.getD j 0])
def idle (h : Hs) (rows : List (List Nat)) (m : Mv) : Prop := valBy h rows m.1 m.2 = (rows.getD m.1 []).getLastD 0
instance {h : Hs} {rows : List (List Nat)} {m : Mv} : Decidable (idle h rows m) := inferInstanceAs (Decidable (_ = _))
def cutV (h : Hs) : List (List Nat) → List Nat → List (List Nat) → List Mv → List Mv
  | _, _, _, [] => []
  | nums, many, rows, m :: ms => if idle h rows m then cutV h (stay nums m.1) many (stepV h rows m) ms
    else (m.1, seeN h nums m) :: cutV h (goOn nums many m.1) (bump many m.1) (stepV h rows m) ms
structure NmOk (h : Hs) (nums rows : List (List Nat)) (many : List Nat) : Prop where
  nl : nums.length = h.length
  ml : many.length = h.length
  eq : ∀ j, j < h.length → (nums.getD j []).length = (rows.getD j []).length
  ne : ∀ j, j < h.length → rows.getD j [] ≠ []
theorem set_len2 {A B : List (List Nat)} {i j x y : Nat} (hA : i < A.length) (hB : i < B.length) (e : (A.getD j []).length = (B.getD j []).length) : ((A.set i (A.getD i [] ++ [x])).getD j []).length = ((B.set i (B.getD i [] ++ [y])).getD j []).length := by
  rw [getD_set hA, getD_set hB]
  split
  · rename_i h; subst h; simp only [List.length_append, List.length_cons, List.length_nil, e]
  · exact e
theorem step_ne {h : Hs} {rows : List (List Nat)} {m : Mv} {j : Nat} (hm : m.1 < rows.length) (e : rows.getD j [] ≠ []) : (stepV h rows m).getD j [] ≠ [] := by
  rw [stepV, getD_set hm]
  split
  · simp
  · exact e
theorem nm_stay {h : Hs} {nums rows : List (List Nat)} {many : List Nat} {m : Mv} (rl : rows.length = h.length) (hm : m.1 < h.length) (no : NmOk h nums rows many) : NmOk h (stay nums m.1) (stepV h rows m) many :=
  ⟨by simp [stay, no.nl], no.ml, fun j hj => set_len2 (by rw [no.nl]; exact hm) (by rw [rl]; exact hm) (no.eq j hj), fun j hj => step_ne (by rw [rl]; exact hm) (no.ne j hj)⟩
theorem nm_go {h : Hs} {nums rows : List (List Nat)} {many : List Nat} {m : Mv} (rl : rows.length = h.length) (hm : m.1 < h.length) (no : NmOk h nums rows many) : NmOk h (goOn nums many m.1) (stepV h rows m) (bump many m.1) :=
  ⟨by simp [goOn, no.nl], by rw [bump_len]; exact no.ml, fun j hj => set_len2 (by rw [no.nl]; exact hm) (by rw [rl]; exact hm) (no.eq j hj), fun j hj => step_ne (by rw [rl]; exact hm) (no.ne j hj)⟩
theorem f_withmove {l : Nat} {s : St} {ms : List Mv} {j : Nat} {xs : List Nat} {ts : Tin} (lo : ms.length ≤ 90000) : FL (l + 6) 39 [encR s ms, .int (j : Nat), .lst (ns xs)] ts = some (.p (encR s (ms ++ [(j, xs)])), ts) := by
  have e : encMs (ms ++ [(j, xs)]) = .tup (ms.map encM ++ [.tup [.int (j : Nat), tns xs]]) := by simp [encMs, encM]
  refine FL_rt rfl rfl (bx_seq (bx_unp (bs_fn (bs_cn (bs_var rfl) bs_nl) f_tupr cl_r) rfl)
    (bx_rt (r := .p (encR s (ms ++ [(j, xs)]))) (bx_ret ?_ cl_r)))
  have e2 : encR s (ms ++ [(j, xs)]) = .tup [encS s, .tup (ms.map encM ++ [.tup [.int (j : Nat), tns xs]])] := by rw [encR, e]
  rw [e2]
  refine bs_tup (bs_cn (bs_var rfl) (bs_cn (bs_tup (bs_cs (bs_var rfl) rfl (bs_cn (bs_tup (bs_cn (bs_var rfl) (bs_cn (bs_bi (r := .p (tns xs)) (bs_cn (bs_var rfl) bs_nl) rfl) bs_nl)) (show 2 ≤ 1000000 by omega)) bs_nl)) ?_) bs_nl)) (show 2 ≤ 1000000 by omega)
  rw [List.length_append, List.length_map]
  show _ + 1 ≤ 1000000
  omega
theorem last_n {r : List Nat} {ts : Tin} (h : r ≠ []) : idxD ts (encV r) (.int (-1)) = some (.int (r.getLastD 0 : Nat)) := last_enc (enc := fun (n : Nat) => .int (n : Int)) (d := 0) h
theorem row_at {rows : List (List Nat)} {j : Nat} {ts : Tin} (h : j < rows.length) : idxD ts (encVs rows) (.int (j : Nat)) = some (encV (rows.getD j [])) := idx_l (getD_at h)
def cuBody : Stm := .seq (.asg 8 false (.brw (.fn 28 (.cn (.var 0) (.cn (.var 5) (.cn (.var 6) (.cn (.var 7) .nl))))))) (.seq (.ife (.brw (.cmp .eq (.var 8) (.idx (.idx (.var 5) (.var 6)) (.neg (.int 1))))) (.seq (.app2 2 (.var 6) (.brw (.idx (.idx (.var 2) (.var 6)) (.neg (.int 1))))) .nil) (.seq (.asg 9 false (.brw (.lc [11, 12] (.many [11, 12]) (.zp (.idx (.idx (.var 0) (.var 6)) (.glb "WATCHED_runs" 1)) (.var 7)) (.bl true) (.idx (.idx (.var 2) (.var 11)) (.var 12)) false))) (.seq (.asg 4 false (.fn 39 (.cn (.var 4) (.cn (.var 6) (.cn (.var 9) .nl))))) (.seq (.app2 2 (.var 6) (.brw (.idx (.var 3) (.var 6)))) (.seq (.sto 3 (.var 6) (.brw (.add (.idx (.var 3) (.var 6)) (.int 1)))) .nil))))) (.seq (.app2 5 (.var 6) (.var 8)) .nil))
theorem app2_at {xss : List (List Nat)} {j : Nat} (h : j < xss.length) : L2.ixN (xss.map ns).length (j : Int) = some j ∧ (xss.map ns)[j]? = some (ns (xss.getD j [])) := by
  refine ⟨ixN_nat (by rw [List.length_map]; exact h), ?_⟩
  rw [List.getElem?_map, getD_at h (d := [])]; rfl
theorem cu_loop {l : Nat} {h : Hs} {s : St} {ts : Tin} {x1 x10 x11 x12 : Option R} (ok : HsOk h) : ∀ {ms : List Mv} {nums rows : List (List Nat)} {many : List Nat} {fd : List Mv} {a b c d : Option R}, RwOk h rows → RunOk h rows ms → LnOk rows ms.length → NmOk h nums rows many → fd.length + ms.length ≤ 90000 →
    ∃ a' b' c' d' n' m' r', forL (turn (FL (l + 6)) (.many [6, 7]) cuBody) (ms.map encM) [some (.p (encH h)), x1, some (.o2 (nums.map ns)), some (.o1 (ns many)), some (.p (encR s fd)), some (.o2 (rows.map ns)), a, b, c, d, x10, x11, x12] ts
      = some (.nx [some (.p (encH h)), x1, n', m', some (.p (encR s (fd ++ cutV h nums many rows ms))), r', a', b', c', d', x10, x11, x12], ts)
  | [], nums, rows, many, fd, a, b, c, d, _, _, _, _, _ => ⟨a, b, c, d, _, _, _, by rw [cutV, List.append_nil]; rfl⟩
  | m :: ms, nums, rows, many, fd, a, b, c, d, rw_, ro, lo, no, lf => by
    obtain ⟨mo, ro⟩ := ro
    simp only [List.length_cons] at lf
    have pl := mo.pl
    have hj : m.1 < rows.length := by rw [rw_.ln]; exact pl
    have hn : m.1 < nums.length := by rw [no.nl]; exact pl
    have lr := lo _ (getD_mem (d := []) hj)
    have lnn : (nums.getD m.1 []).length < 1000000 := by rw [no.eq _ pl]; simp only [List.length_cons] at lr; omega
    have lrn : (rows.getD m.1 []).length < 1000000 := by simp only [List.length_cons] at lr; omega
    have nn : nums.getD m.1 [] ≠ [] := fun z => no.ne _ pl (List.length_eq_zero_iff.mp (by rw [← no.eq _ pl, z]; rfl))
    obtain ⟨f, e⟩ := at_lt pl
    have fo := ok.fd f (List.mem_of_getElem? e)
    have ee := eyes_at e
    have evb := f_valby (l := l + 3) (ts := ts) ok rw_ mo
    rw [← fz_o2] at evb
    have ev2 : ∀ (x y z : Option R), ex (FL (l + 6)) (.asg 8 false (.brw (.fn 28 (.cn (.var 0) (.cn (.var 5) (.cn (.var 6) (.cn (.var 7) .nl))))))) [some (.p (encH h)), x1, some (.o2 (nums.map ns)), some (.o1 (ns many)), some (.p (encR s fd)), some (.o2 (rows.map ns)), some (.p (.int (m.1 : Nat))), some (.p (tns m.2)), c, d, x10, x11, x12] ts = some (.nx [some (.p (encH h)), x1, some (.o2 (nums.map ns)), some (.o1 (ns many)), some (.p (encR s fd)), some (.o2 (rows.map ns)), some (.p (.int (m.1 : Nat))), some (.p (tns m.2)), some (.p (.int (valBy h rows m.1 m.2 : Nat))), d, x10, x11, x12], ts) := fun _ _ _ =>
      bx_asg (bs_brw (bs_fn (bs_cn (bs_var rfl) (bs_cn (bs_var rfl) (bs_cn (bs_var rfl) (bs_cn (bs_var rfl) bs_nl)))) evb rfl) rfl) rfl
    have ec : ev (FL (l + 6)) (.brw (.cmp .eq (.var 8) (.idx (.idx (.var 5) (.var 6)) (.neg (.int 1))))) [some (.p (encH h)), x1, some (.o2 (nums.map ns)), some (.o1 (ns many)), some (.p (encR s fd)), some (.o2 (rows.map ns)), some (.p (.int (m.1 : Nat))), some (.p (tns m.2)), some (.p (.int (valBy h rows m.1 m.2 : Nat))), d, x10, x11, x12] ts = some (.p (.bl (decide (idle h rows m))), ts) :=
      bs_brw (bs_cmp (bs_var rfl) (bs_idx (bs_idx (d := encV (rows.getD m.1 [])) (bs_var rfl) (bs_var rfl) (by rw [fz_o2]; exact row_at hj)) (bs_neg bs_int rfl) (last_n (no.ne _ pl))) eq_int) rfl
    by_cases hi : idle h rows m
    · obtain ⟨a', b', c', d', n', m', r', ih⟩ := cu_loop (l := l) (s := s) (ts := ts) (x1 := x1) (x10 := x10) (x11 := x11) (x12 := x12) ok (ms := ms) (nums := stay nums m.1) (rows := stepV h rows m) (many := many) (fd := fd) (a := some (.p (.int (m.1 : Nat)))) (b := some (.p (tns m.2))) (c := some (.p (.int (valBy h rows m.1 m.2 : Nat)))) (d := d) (stepV_ok ok rw_ mo) ro (lnOk_step hj lo) (nm_stay rw_.ln pl no) (by omega)
      refine ⟨a', b', c', d', n', m', r', ?_⟩
      rw [decide_eq_true hi] at ec
      have st : turn (FL (l + 6)) (.many [6, 7]) cuBody [some (.p (encH h)), x1, some (.o2 (nums.map ns)), some (.o1 (ns many)), some (.p (encR s fd)), some (.o2 (rows.map ns)), a, b, c, d, x10, x11, x12] (encM m) ts
          = some (.nx [some (.p (encH h)), x1, some (.o2 ((stay nums m.1).map ns)), some (.o1 (ns many)), some (.p (encR s fd)), some (.o2 ((stepV h rows m).map ns)), some (.p (.int (m.1 : Nat))), some (.p (tns m.2)), some (.p (.int (valBy h rows m.1 m.2 : Nat))), d, x10, x11, x12], ts) := by
        rw [stepV, stay, ← set_ns, ← set_ns]
        exact bturn rfl (bx_seq (ev2 none none none) (bx_seq (bx_ifT ec (bx_seq (bx_app2 (bs_var rfl) (bs_brw (r := .p (.int ((nums.getD m.1 []).getLastD 0 : Nat))) (bs_idx (bs_idx (d := encV (nums.getD m.1 [])) (bs_var rfl) (bs_var rfl) (by rw [fz_o2]; exact row_at hn)) (bs_neg bs_int rfl) (last_n nn)) rfl) rfl (app2_at hn).1 (app2_at hn).2 (by rw [ns_len]; exact lnn)) bx_nil)) (bx_seq (bx_app2 (bs_var rfl) (bs_var rfl) rfl (app2_at hj).1 (app2_at hj).2 (by rw [ns_len]; exact lrn)) bx_nil)))
      show forL _ (encM m :: ms.map encM) _ _ = _
      simp only [forL, st]
      rw [cutV, if_pos hi]
      exact ih
    · obtain ⟨a', b', c', d', n', m', r', ih⟩ := cu_loop (l := l) (s := s) (ts := ts) (x1 := x1) (x10 := x10) (x11 := x11) (x12 := x12) ok (ms := ms) (nums := goOn nums many m.1) (rows := stepV h rows m) (many := bump many m.1) (fd := fd ++ [(m.1, seeN h nums m)]) (a := some (.p (.int (m.1 : Nat)))) (b := some (.p (tns m.2))) (c := some (.p (.int (valBy h rows m.1 m.2 : Nat)))) (d := some (.p (.lst (ns (seeN h nums m))))) (stepV_ok ok rw_ mo) ro (lnOk_step hj lo) (nm_go rw_.ln pl no) (by simp; omega)
      refine ⟨a', b', c', d', n', m', r', ?_⟩
      rw [decide_eq_false hi] at ec
      have ef : (f.eyes.zip m.2).map (fun p => D.int ((nums.getD p.1 []).getD p.2 0 : Nat)) = ns (seeN h nums m) := by simp [seeN, seenV, ee, ns]
      have st : turn (FL (l + 6)) (.many [6, 7]) cuBody [some (.p (encH h)), x1, some (.o2 (nums.map ns)), some (.o1 (ns many)), some (.p (encR s fd)), some (.o2 (rows.map ns)), a, b, c, d, x10, x11, x12] (encM m) ts
          = some (.nx [some (.p (encH h)), x1, some (.o2 ((goOn nums many m.1).map ns)), some (.o1 (ns (bump many m.1))), some (.p (encR s (fd ++ [(m.1, seeN h nums m)]))), some (.o2 ((stepV h rows m).map ns)), some (.p (.int (m.1 : Nat))), some (.p (tns m.2)), some (.p (.int (valBy h rows m.1 m.2 : Nat))), some (.p (.lst (ns (seeN h nums m)))), x10, x11, x12], ts) := by
        rw [stepV, goOn, ← set_ns, ← set_ns]
        refine bturn rfl (bx_seq (ev2 none none none) (bx_seq (bx_ifF ec (bx_seq (bx_asg (r := .o1 (ns (seeN h nums m))) (bs_brw ?_ cl_ns) rfl) (bx_seq (bx_asg (bs_fn (bs_cn (bs_var rfl) (bs_cn (bs_var rfl) (bs_cn (bs_var rfl) bs_nl))) (f_withmove (by omega)) cl_r) rfl) (bx_seq (bx_app2 (bs_var rfl) (bs_brw (r := .p (.int (many.getD m.1 0 : Nat))) (bs_idx (bs_var rfl) (bs_var rfl) (idx_ln (getD_at (by rw [no.ml]; exact pl)))) rfl) rfl (app2_at hn).1 (app2_at hn).2 (by rw [ns_len]; exact lnn)) (bx_seq (bx_bump (i := 3) (j := 6) rfl rfl (by rw [no.ml]; exact pl)) bx_nil))))) (bx_seq (bx_app2 (bs_var rfl) (bs_var rfl) rfl (app2_at hj).1 (app2_at hj).2 (by rw [ns_len]; exact lrn)) bx_nil)))
        rw [← ef]
        refine bs_lc (l := f.eyes.zip m.2) (enc := fun p => .tup [.int (p.1 : Nat), .int (p.2 : Nat)]) _ (ev_eyes rfl rfl rfl e) fun p hp => ?_
        have hb := mo.bd p (by rw [ee]; exact hp)
        have hq := fo.eh _ (List.of_mem_zip (show (p.1, p.2) ∈ _ from hp)).1
        refine ⟨_, _, rfl, bs_idx (bs_idx (d := encV (nums.getD p.1 [])) (bs_var rfl) (bs_var rfl) (by rw [fz_o2]; exact row_at (by rw [no.nl]; exact hq))) (bs_var rfl) (idx_ln (getD_at (by rw [no.eq _ hq]; exact hb) (d := 0))), rfl⟩
      show forL _ (encM m :: ms.map encM) _ _ = _
      simp only [forL, st]
      rw [cutV, if_neg hi, show fd ++ (m.1, seeN h nums m) :: cutV h (goOn nums many m.1) (bump many m.1) (stepV h rows m) ms = fd ++ [(m.1, seeN h nums m)] ++ cutV h (goOn nums many m.1) (bump many m.1) (stepV h rows m) ms by simp]
      exact ih
def num0 (rows : List (List Nat)) : List (List Nat) := rows.map fun r => List.range r.length
def bareV (h : Hs) (s : St) (ms : List Mv) : List Mv := cutV h (num0 (firstV h s)) (lens (firstV h s)) (firstV h s) ms
theorem num0_len {rows : List (List Nat)} {j : Nat} : ((num0 rows).getD j []).length = (rows.getD j []).length := by
  simp only [num0, List.getD_eq_getElem?_getD, List.getElem?_map]
  cases rows[j]? <;> simp
theorem nm_0 {h : Hs} {s : St} : NmOk h (num0 (firstV h s)) (firstV h s) (lens (firstV h s)) :=
  ⟨by simp [num0, firstV_len], lens_first, fun j _ => num0_len, fun j hj => by rw [firstV_at hj]; simp⟩
theorem f_cutrun {l : Nat} {h : Hs} {s : St} {ms : List Mv} {ts : Tin} (ok : HsOk h) (so : StOk h s) (ro : RunOk h (firstV h s) ms) (lo : ms.length ≤ 90000) : FL (l + 7) 49 [encH h, encR s ms] ts = some (.p (encR s (bareV h s ms)), ts) := by
  have fl := firstV_ln so lo
  obtain ⟨a', b', c', d', n', m', r', e⟩ := cu_loop (l := l) (s := s) (ts := ts) (x1 := some (.p (encR s ms))) (x10 := none) (x11 := none) (x12 := none) ok (ms := ms) (nums := num0 (firstV h s)) (rows := firstV h s) (many := lens (firstV h s)) (fd := []) (a := none) (b := none) (c := none) (d := none) (firstV_ok so) ro fl nm_0 (by simp; omega)
  have e1 : ns (lens (firstV h s)) = (firstV h s).map fun r => D.int (r.length : Nat) := by simp [ns, lens]
  have e2 : (num0 (firstV h s)).map ns = (firstV h s).map fun r => ns (List.range r.length) := by simp [num0]
  refine FL_rt rfl rfl (bx_seq (bx_par (bs_tup (bs_cn (bs_fn (bs_cn (bs_idx (bs_var rfl) bs_int rfl) bs_nl) f_tups cl_s) (bs_cn (bs_tup bs_nl (by decide)) bs_nl)) (show 2 ≤ 1000000 by omega)) (bs_fn (bs_cn (bs_var rfl) (bs_cn (bs_idx (bs_var rfl) bs_int rfl) bs_nl)) (f_first ok.l8 so) cl_o2) rfl rfl)
    (bx_seq (bx_asg (ts1 := ts) (r := .o2 ((num0 (firstV h s)).map ns)) (bs_brw ?_ cl_o2) rfl)
    (bx_seq (bx_asg (ts1 := ts) (r := .o1 (ns (lens (firstV h s)))) (bs_brw ?_ cl_ns) rfl)
    (bx_seq (bx_for (bs_sq (bs_idx (bs_var rfl) bs_int rfl) rfl) e)
    (bx_rt (bx_ret (bs_var rfl) cl_r))))))
  · rw [e2]
    refine bs_lck (l := firstV h s) (enc := encV) _ (bs_sq (bs_var rfl) (by rw [fz_o2]; rfl)) fun r hr => ⟨_, rfl, bs_lrng (bs_bi (bs_cn (bs_var rfl) bs_nl) len_lm) (rngD_nat ?_)⟩
    have := fl r hr
    omega
  · rw [e1]
    exact bs_lc (l := firstV h s) (enc := encV) (fun r => .int (r.length : Nat)) (bs_sq (bs_var rfl) (by rw [fz_o2]; rfl)) fun r hr => ⟨_, _, rfl, bs_bi (bs_cn (bs_var rfl) bs_nl) len_lm, rfl⟩
end Lt.Mt

namespace Lt.Mt
open PySem

/-! ### rows of a table, and their places -/
def Vr : List Nat → List Nat → Prop
  | [], [] => True
  | a :: r, s :: ss => a < s ∧ Vr r ss
  | _, _ => False
theorem Vr.len : ∀ {r ss : List Nat}, Vr r ss → r.length = ss.length
  | [], [], _ => rfl
  | a :: r, s :: ss, h => by simp [Vr.len h.2]
  | [], _ :: _, h => h.elim
  | _ :: _, [], h => h.elim
theorem Vr.lt : ∀ {r ss : List Nat}, Vr r ss → ∀ p ∈ r.zip ss, p.1 < p.2
  | [], [], _, p, hp => by simp at hp
  | a :: r, s :: ss, h, p, hp => by
    rcases List.mem_cons.mp hp with rfl | hp
    · exact h.1
    · exact Vr.lt h.2 p hp
  | [], _ :: _, h, _, _ => h.elim
  | _ :: _, [], h, _, _ => h.elim
theorem vr_of : ∀ {r ss : List Nat}, r.length = ss.length → (∀ p ∈ r.zip ss, p.1 < p.2) → Vr r ss
  | [], [], _, _ => trivial
  | a :: r, s :: ss, hl, h => ⟨h (a, s) (by simp), vr_of (by simpa using hl) fun p hp => h p (by simp [hp])⟩
  | [], _ :: _, hl, _ => by simp at hl
  | _ :: _, [], hl, _ => by simp at hl
theorem growR_cons {a : List Nat} {fd : List (List Nat)} {s : Nat} : growR (a :: fd) s = ((List.range s).map fun n => a ++ [n]) ++ growR fd s := by simp [growR]
theorem growR_at : ∀ {fd : List (List Nat)} {s k n : Nat} {o : List Nat}, fd[k]? = some o → n < s → (growR fd s)[k * s + n]? = some (o ++ [n])
  | [], _, _, _, _, h, _ => by simp at h
  | a :: fd, s, 0, n, o, h, hn => by
    simp only [List.getElem?_cons_zero, Option.some.injEq] at h
    subst h
    rw [growR_cons, Nat.zero_mul, Nat.zero_add, List.getElem?_append_left (by simp [hn]), List.getElem?_map, List.getElem?_range hn]
    rfl
  | a :: fd, s, k + 1, n, o, h, hn => by
    simp only [List.getElem?_cons_succ] at h
    have ih := growR_at (s := s) (n := n) h hn
    rw [growR_cons, List.getElem?_append_right (by simp [Nat.add_mul]; omega)]
    rw [← ih]
    congr 1
    simp [Nat.add_mul]; omega
theorem foldR_at : ∀ {ss r : List Nat} {fd : List (List Nat)} {k : Nat} {o : List Nat}, fd[k]? = some o → Vr r ss → (ss.foldl growR fd)[(r.zip ss).foldl (fun n p => n * p.2 + p.1) k]? = some (o ++ r)
  | [], [], _, _, _, h, _ => by simpa using h
  | s :: ss, a :: r, fd, k, o, h, hv => by
    have ih := foldR_at (ss := ss) (r := r) (growR_at h hv.1) hv.2
    simp only [List.foldl_cons, List.zip_cons_cons]
    rw [ih]; simp
  | [], _ :: _, _, _, _, _, hv => hv.elim
  | _ :: _, [], _, _, _, _, hv => hv.elim
theorem allR_at {ss r : List Nat} (hv : Vr r ss) : (allR ss)[hor (r.zip ss)]? = some r := by
  have := foldR_at (fd := [[]]) (k := 0) (o := []) rfl hv
  simpa [allR, hor] using this
theorem foldR_mem : ∀ {ss : List Nat} {fd : List (List Nat)} {r : List Nat}, r ∈ ss.foldl growR fd → ∃ o ∈ fd, ∃ q, r = o ++ q ∧ Vr q ss
  | [], fd, r, h => ⟨r, h, [], by simp, trivial⟩
  | s :: ss, fd, r, h => by
    obtain ⟨o, ho, q, rfl, hv⟩ := foldR_mem (ss := ss) (fd := growR fd s) h
    simp only [growR, List.mem_flatMap, List.mem_map, List.mem_range] at ho
    obtain ⟨o', ho', n, hn, rfl⟩ := ho
    exact ⟨o', ho', n :: q, by simp, hn, hv⟩
theorem allR_mem {ss r : List Nat} : r ∈ allR ss ↔ Vr r ss := by
  constructor
  · intro h
    obtain ⟨o, ho, q, rfl, hv⟩ := foldR_mem h
    simp only [List.mem_singleton] at ho
    subst ho
    simpa using hv
  · intro h; exact List.mem_of_getElem? (allR_at h)
theorem prodL_cons {s : Nat} {ss : List Nat} : prodL (s :: ss) = s * prodL ss := by rw [prodL, List.foldl_cons, Nat.one_mul, prod_foldl]
theorem foldR_len : ∀ {ss : List Nat} {fd : List (List Nat)}, (ss.foldl growR fd).length = fd.length * prodL ss
  | [], fd => by simp [prodL]
  | s :: ss, fd => by
    rw [List.foldl_cons, foldR_len, growR_len, prodL_cons, Nat.mul_assoc]
theorem allR_len {ss : List Nat} : (allR ss).length = prodL ss := by rw [allR, foldR_len]; simp
theorem tabAt_ok {h : Hs} {j : Nat} {f : Fd} {r : List Nat} (ok : HsOk h) (e : h[j]? = some f) (hv : Vr r (f.eyes.map (szs h))) : hor (r.zip (f.eyes.map (szs h))) < f.tab.length := by
  rw [(ok.fd f (List.mem_of_getElem? e)).tl]
  exact hor_lt hv.len hv.lt
theorem tabAt_lt {h : Hs} {j : Nat} {f : Fd} {r : List Nat} (ok : HsOk h) (e : h[j]? = some f) (hv : Vr r (f.eyes.map (szs h))) : tabAt h j r < szs h j := by
  have fo := ok.fd f (List.mem_of_getElem? e)
  simp only [tabAt, e, szs]
  exact fo.tv _ (getD_mem (tabAt_ok ok e hv))
theorem szs_pos {h : Hs} {j : Nat} (ok : HsOk h) (hj : j < h.length) : 0 < szs h j := by
  obtain ⟨f, e⟩ := at_lt hj
  have fo := ok.fd f (List.mem_of_getElem? e)
  rw [szs_f e]
  exact List.length_pos_iff.mpr fo.v0

/-! ### does_matter, matters -/
theorem vr_set : ∀ {r ss : List Nat} {i : Nat}, Vr r ss → (∀ s ∈ ss, 0 < s) → Vr (r.set i 0) ss
  | [], [], _, _, _ => by simp [Vr]
  | a :: r, s :: ss, 0, h, hp => ⟨hp s (by simp), h.2⟩
  | a :: r, s :: ss, i + 1, h, hp => ⟨h.1, vr_set h.2 fun t ht => hp t (by simp [ht])⟩
  | [], _ :: _, _, h, _ => h.elim
  | _ :: _, [], _, h, _ => h.elim
def matB (h : Hs) (j : Nat) (i : Nat) : Bool := (allR ((eyesOf h j).map (szs h))).any fun r => decide (tabAt h j r ≠ tabAt h j (r.set i 0))
def mats (h : Hs) (j : Nat) : List Nat := ((eyesOf h j).zipIdx.filter fun p => matB h j p.2).map (·.1)
theorem take_set_drop {α : Type} {l : List α} {i : Nat} {a : α} (h : i < l.length) : l.take i ++ a :: l.drop (i + 1) = l.set i a := by
  rw [List.set_eq_take_append_cons_drop, if_pos h]
theorem f_matter {l : Nat} {h : Hs} {j i : Nat} {f : Fd} {ts : Tin} (ok : HsOk h) (e : h[j]? = some f) (hi : i < f.eyes.length) : FL (l + 4) 19 [encH h, .int (j : Nat), .int (i : Nat)] ts = some (.p (.bl (matB h j i)), ts) := by
  have fo := ok.fd f (List.mem_of_getElem? e)
  have ee := eyes_at e
  have sp : ∀ s ∈ f.eyes.map (szs h), 0 < s := fun s hs => by obtain ⟨p, hp, rfl⟩ := List.mem_map.mp hs; exact szs_pos ok (fo.eh p hp)
  have ez : ∀ (ls : List (List Nat)), zipD (ls.map tns) ((ls.map fun r => r.set i 0).map tns) = ls.map fun r => .tup [tns r, tns (r.set i 0)] := by
    intro ls
    rw [zip_map (e1 := tns) (e2 := tns)]
    rw [List.zip_map_right, List.map_map]
    induction ls with
    | nil => rfl
    | cons a ls ih => simp only [List.zip_cons_cons, List.map_cons, ih]; rfl
  have em : matB h j i = (allR (f.eyes.map (szs h))).any fun r => decide (tabAt h j r ≠ tabAt h j (r.set i 0)) := by rw [matB, ee]
  rw [em]
  refine FL_rt rfl rfl (bx_seq (bx_asg (bs_fn (bs_cn (bs_var rfl) (bs_cn (bs_var rfl) bs_nl)) (f_rowsof ok e) (clean_map fun _ => cl_tns)) rfl)
    (bx_seq (bx_asg (ts1 := ts) (r := .o1 (((allR (f.eyes.map (szs h))).map fun r => r.set i 0).map tns)) ?_ rfl)
    (bx_rt (bx_ret (bs_any (l := allR (f.eyes.map (szs h))) (enc := fun r => .tup [tns r, tns (r.set i 0)]) (fun r => decide (tabAt h j r ≠ tabAt h j (r.set i 0))) (by rw [← ez]; exact bs_zp (bs_var rfl) (bs_var rfl) rfl rfl) fun r hr => ⟨_, rfl, (bs_cmp (bs_fn (bs_cn (bs_var rfl) (bs_cn (bs_var rfl) (bs_cn (bs_var rfl) bs_nl))) (f_tabat ok e (.inl rfl) (tabAt_ok ok e (allR_mem.mp hr))) rfl) (bs_fn (bs_cn (bs_var rfl) (bs_cn (bs_var rfl) (bs_cn (bs_var rfl) bs_nl))) (f_tabat ok e (.inl rfl) (tabAt_ok ok e (vr_set (allR_mem.mp hr) sp))) rfl) ne_int)⟩) rfl))))
  rw [List.map_map]
  refine bs_lc (l := allR (f.eyes.map (szs h))) (enc := tns) _ (bs_sq (bs_var rfl) rfl) fun r hr => ?_
  have hv := (allR_mem.mp hr).len
  rw [List.length_map] at hv
  refine ⟨_, _, rfl, bs_tup (bs_cs (bs_slc (bs_var rfl) bs_nlO (bs_sm (bs_var rfl)) slc_t) rfl (bs_cn bs_int (bs_cs (bs_slc (bs_var rfl) (bs_sm (bs_add (bs_var rfl) bs_int rfl)) bs_nlO (slc_d (n := i + 1))) rfl bs_nl))) ?_, ?_⟩
  · have := fo.el
    simp [LIM]; omega
  · show D.tup ((ns r).take i ++ D.int ((0 : Nat) : Int) :: ((ns r).drop (i + 1) ++ [])) = tns (r.set i 0)
    rw [List.append_nil, take_set_drop (by rw [ns_len]; omega), set_int]
    rfl
theorem f_matters {l : Nat} {h : Hs} {j : Nat} {ts : Tin} (ok : HsOk h) (hj : j < h.length) : FL (l + 5) 20 [encH h, .int (j : Nat)] ts = some (.p (tns (mats h j)), ts) := by
  obtain ⟨f, e⟩ := at_lt hj
  have ee := eyes_at e
  have em : ns (mats h j) = ((f.eyes.zipIdx.filter fun p => matB h j p.2).map fun p => D.int (p.1 : Nat)) := by simp [mats, ns, ee]
  refine FL_rt rfl rfl (bx_seq (bx_exp (bs_fn (bs_cn (bs_var rfl) (bs_cn (bs_var rfl) bs_nl)) (f_chkpl hj) rfl))
    (bx_rt (bx_ret (bs_bi (r := .p (tns (mats h j))) (ts1 := ts) (ds := [.lst (ns (mats h j))]) (bs_cn (x := .o1 (ns (mats h j))) (ts1 := ts) ?_ bs_nl) rfl) cl_tns)))
  rw [em]
  refine bs_lcf (l := f.eyes.zipIdx) (enc := fun p => .tup [.int (p.2 : Nat), .int (p.1 : Nat)]) (fun p => matB h j p.2) (fun p => D.int (p.1 : Nat)) (enm_l (enc := fun (n : Nat) => .int (n : Int)) (bs_idx (bs_idx (bs_var rfl) (bs_var rfl) (idx_h e)) bs_glb fe) rfl) fun p hp => ⟨_, rfl, bs_fn (bs_cn (bs_var rfl) (bs_cn (bs_var rfl) (bs_cn (bs_var rfl) bs_nl))) (f_matter ok e ?_) rfl, fun _ => ⟨_, bs_var rfl, rfl⟩⟩
  have := List.mem_zipIdx_iff_getElem?.mp hp
  exact (List.getElem?_eq_some_iff.mp this).1
end Lt.Mt

namespace Lt.Mt
open PySem

/-! ### what a dict has -/
def look (ks : List Int) (vs : List D) (j : Int) : Option D := ((ks.zip vs).find? fun kv => decide (kv.1 = j)).map (·.2)
theorem look_nil {j : Int} {vs : List D} : look [] vs j = none := rfl
theorem look_cons {k j : Int} {v : D} {ks : List Int} {vs : List D} : look (k :: ks) (v :: vs) j = if k = j then some v else look ks vs j := by
  simp only [look, List.zip_cons_cons, List.find?_cons]
  by_cases h : k = j <;> simp [h]
theorem look_app {k j : Int} {v : D} : ∀ {ks : List Int} {vs : List D}, ks.length = vs.length → k ∉ ks → look (ks ++ [k]) (vs ++ [v]) j = if k = j then some v else look ks vs j
  | [], [], _, _ => by rw [List.nil_append, List.nil_append, look_cons]
  | a :: ks, b :: vs, hl, hk => by
    have ih := look_app (k := k) (j := j) (v := v) (ks := ks) (vs := vs) (by simpa using hl) (fun z => hk (by simp [z]))
    have ha : a ≠ k := fun z => hk (by simp [z])
    rw [List.cons_append, List.cons_append, look_cons, look_cons, ih]
    by_cases h1 : a = j
    · subst h1
      simp [Ne.symm ha]
    · simp [h1]
  | [], _ :: _, hl, _ => by simp at hl
  | _ :: _, [], hl, _ => by simp at hl
theorem look_put {k j : Int} {v : D} : ∀ {ks : List Int} {vs : List D}, ks.length = vs.length → k ∈ ks → look ks ((ks.zip vs).map fun kv => if kv.1 = k then v else kv.2) j = if k = j then some v else look ks vs j
  | [], [], _, hk => by simp at hk
  | a :: ks, b :: vs, hl, hk => by
    simp only [List.zip_cons_cons, List.map_cons]
    rw [look_cons, look_cons]
    by_cases hm : k ∈ ks
    · have ih := look_put (k := k) (j := j) (v := v) (ks := ks) (vs := vs) (by simpa using hl) hm
      rw [ih]
      by_cases h1 : a = j
      · subst h1
        by_cases h2 : a = k
        · simp [h2]
        · simp [h2, Ne.symm h2]
      · simp [h1]
    · have hka : k = a := by
        rcases List.mem_cons.mp hk with h | h
        · exact h
        · exact absurd h hm
      subst hka
      by_cases h1 : k = j
      · simp [h1]
      · have : look ks ((ks.zip vs).map fun kv => if kv.1 = k then v else kv.2) j = look ks vs j := by
          have e : ((ks.zip vs).map fun kv => if kv.1 = k then v else kv.2) = vs := by
            have hl2 : ks.length = vs.length := by simpa using hl
            clear hl hk
            induction ks generalizing vs with
            | nil => cases vs <;> simp at hl2 ⊢
            | cons c ks ih2 =>
              cases vs with
              | nil => simp at hl2
              | cons d vs =>
                simp only [List.zip_cons_cons, List.map_cons]
                rw [if_neg (fun z => hm (by simp [z])), ih2 vs (fun z => hm (by simp [z])) (by simpa using hl2)]
          rw [e]
        simp [h1, this]
  | [], _ :: _, hl, _ => by simp at hl
  | _ :: _, [], hl, _ => by simp at hl
theorem putD_look {ks : List Int} {vs : List D} {k j : Int} {v : D} (hl : ks.length = vs.length) : look (putD ks vs k v).1 (putD ks vs k v).2 j = (if k = j then some v else look ks vs j) ∧ (putD ks vs k v).1.length = (putD ks vs k v).2.length := by
  unfold putD
  split
  · rename_i hk
    exact ⟨look_put hl hk, by simp [hl]⟩
  · rename_i hk
    exact ⟨look_app hl hk, by simp [hl]⟩
theorem look_mem {j : Int} : ∀ {ks : List Int} {vs : List D}, j ∉ ks → look ks vs j = none
  | [], _, _ => rfl
  | a :: ks, [], _ => by simp [look]
  | a :: ks, b :: vs, h => by
    rw [look_cons, if_neg (fun z => h (by simp [z])), look_mem fun z => h (by simp [z])]
theorem putsD_look : ∀ {k2 : List Int} {v2 : List D} {ks : List Int} {vs : List D} {j : Int}, ks.length = vs.length → k2.length = v2.length → k2.Nodup → look (putsD ks vs k2 v2).1 (putsD ks vs k2 v2).2 j = (look k2 v2 j).or (look ks vs j)
  | [], [], ks, vs, j, _, _, _ => by rw [putsD, look_nil]; rfl; simp
  | k :: r, v :: s, ks, vs, j, hl, h2, nd => by
    have p := putD_look (k := k) (v := v) (j := j) hl
    have nd2 := List.nodup_cons.mp nd
    rw [putsD, putsD_look p.2 (by simpa using h2) nd2.2, p.1, look_cons]
    by_cases h : k = j
    · subst h
      rw [look_mem nd2.1]; simp
    · simp [h]
  | [], _ :: _, _, _, _, _, h, _ => by simp at h
  | _ :: _, [], _, _, _, _, h, _ => by simp at h
theorem putsD_app : ∀ {k2 : List Int} {v2 : List D} {ks : List Int} {vs : List D}, k2.length = v2.length → k2.Nodup → (∀ k ∈ k2, k ∉ ks) → putsD ks vs k2 v2 = (ks ++ k2, vs ++ v2)
  | [], [], ks, vs, _, _, _ => by rw [putsD]; simp; simp
  | k :: r, v :: s, ks, vs, h2, nd, hd => by
    have nd2 := List.nodup_cons.mp nd
    have e : putD ks vs k v = (ks ++ [k], vs ++ [v]) := by
      unfold putD; rw [if_neg (hd k (by simp))]
    rw [putsD, e, putsD_app (by simpa using h2) nd2.2 (fun q hq => by
      have := hd q (by simp [hq])
      simp only [List.mem_append, List.mem_singleton, not_or]
      exact ⟨this, fun z => nd2.1 (by rwa [← z])⟩)]
    simp
  | [], _ :: _, _, _, h, _, _ => by simp at h
  | _ :: _, [], _, _, h, _, _ => by simp at h
def nIs (l : List Nat) : List Int := l.map fun (n : Nat) => (n : Int)
theorem nIs_nodup {l : List Nat} (h : l.Nodup) : (nIs l).Nodup := by
  refine List.Pairwise.map _ (fun a b hab => ?_) h
  omega
theorem nIs_mem {l : List Nat} {n : Nat} : ((n : Nat) : Int) ∈ nIs l ↔ n ∈ l := by
  simp only [nIs, List.mem_map]
  constructor
  · rintro ⟨a, ha, e⟩
    have : a = n := by omega
    rwa [← this]
  · intro h; exact ⟨n, h, rfl⟩
theorem dc_zero {f : D → Ev (Int × D)} {ts : Tin} : ∀ {l : List Nat} {ks : List Int} {vs : List D}, (∀ n ∈ l, f (.int (n : Nat)) ts = some ((((n : Nat) : Int), D.int 0), ts)) → l.Nodup → (∀ n ∈ l, ((n : Nat) : Int) ∉ ks) → dcL f (ns l) ks vs ts = some (.dct (ks ++ nIs l) (vs ++ l.map fun _ => D.int 0), ts)
  | [], ks, vs, _, _, _ => by simp [ns, dcL, nIs]
  | n :: l, ks, vs, h, nd, hd => by
    have nd2 := List.nodup_cons.mp nd
    have hn := h n (by simp)
    have e : putD ks vs (n : Nat) (D.int 0) = (ks ++ [((n : Nat) : Int)], vs ++ [D.int 0]) := by
      unfold putD; rw [if_neg (hd n (by simp))]
    have ih := dc_zero (f := f) (ts := ts) (l := l) (ks := ks ++ [((n : Nat) : Int)]) (vs := vs ++ [D.int 0]) (fun q hq => h q (by simp [hq])) nd2.2 (fun q hq => by
      have := hd q (by simp [hq])
      simp only [List.mem_append, List.mem_singleton, not_or]
      exact ⟨this, fun z => nd2.1 (by have : q = n := by omega
                                      rwa [← this])⟩)
    show dcL f (D.int (n : Nat) :: ns l) ks vs ts = _
    simp only [dcL, hn, e, ih]
    simp [nIs]

/-! ### told_anew, lean -/
/-- what a row over some places has at a place; a zero elsewhere -/
def atR : List Nat → List Nat → Nat → Nat
  | m :: ms, v :: vs, e => if m = e then v else atR ms vs e
  | _, _, _ => 0
def fillR (eyes ms row : List Nat) : List Nat := eyes.map fun e => atR ms row e
def leanF (h : Hs) (j : Nat) : Fd := match h[j]? with
  | some f => ⟨f.vals, mats h j, (allR ((mats h j).map (szs h))).map fun row => tabAt h j (fillR f.eyes (mats h j) row)⟩
  | none => ⟨[], [], []⟩
def leanH (h : Hs) : Hs := (List.range h.length).map fun j => leanF h j
theorem look_row : ∀ {ms row : List Nat} {e : Nat}, ms.length = row.length → look (nIs ms) (ns row) (e : Nat) = if e ∈ ms then some (D.int (atR ms row e : Nat)) else none
  | [], [], e, _ => by simp [nIs, look]
  | m :: ms, v :: row, e, hl => by
    have ih := look_row (ms := ms) (row := row) (e := e) (by simpa using hl)
    have e1 : look (nIs (m :: ms)) (ns (v :: row)) (e : Nat) = if ((m : Nat) : Int) = (e : Nat) then some (D.int (v : Nat)) else look (nIs ms) (ns row) (e : Nat) := look_cons
    rw [e1, ih]
    by_cases h : m = e
    · subst h; simp [atR]
    · have h2 : ¬ ((m : Nat) : Int) = (e : Nat) := by omega
      rw [if_neg h2]
      simp [atR, h, Ne.symm h]
  | [], _ :: _, _, hl => by simp at hl
  | _ :: _, [], _, hl => by simp at hl
theorem look_zero : ∀ {l : List Nat} {e : Nat}, e ∈ l → look (nIs l) (l.map fun _ => D.int 0) (e : Nat) = some (D.int 0)
  | [], _, h => by simp at h
  | a :: l, e, h => by
    have e1 : look (nIs (a :: l)) ((a :: l).map fun _ => D.int 0) (e : Nat) = if ((a : Nat) : Int) = (e : Nat) then some (D.int 0) else look (nIs l) (l.map fun _ => D.int 0) (e : Nat) := look_cons
    rw [e1]
    by_cases h2 : a = e
    · subst h2; simp
    · rw [if_neg (by omega)]
      rcases List.mem_cons.mp h with z | z
      · exact absurd z.symm h2
      · exact look_zero z
theorem atR_not : ∀ {ms row : List Nat} {e : Nat}, e ∉ ms → atR ms row e = 0
  | [], _, _, _ => by simp [atR]
  | m :: ms, [], _, _ => by simp [atR]
  | m :: ms, v :: row, e, h => by
    rw [atR, if_neg (fun z => h (by simp [z])), atR_not fun z => h (by simp [z])]
theorem asInts_ns2 {l : List Nat} : asInts (ns l) = some (nIs l) := asInts_ns l
theorem dmg_look {n : Nat} {ms row : List Nat} {d : D} (hl : ms.length = row.length) (hn : n ≤ 8) (hm : ms.length ≤ 8) (nd : ms.Nodup) (hd : D.dct (nIs (List.range n)) ((List.range n).map fun _ => D.int 0) = d) :
    ∃ ks vs, dmgD d (tns ms) (tns row) = some (.dct ks vs) ∧ ∀ e, e < n → ∀ ts, idxD ts (.dct ks vs) (.int (e : Nat)) = some (.int (atR ms row e : Nat)) := by
  subst hd
  have z1 : putsD [] [] (nIs (List.range n)) ((List.range n).map fun _ => D.int 0) = (nIs (List.range n), (List.range n).map fun _ => D.int 0) := by
    rw [putsD_app (by simp [nIs]) (nIs_nodup List.nodup_range) (by simp)]; simp
  have z2 : putsD [] [] (nIs ms) (ns row) = (nIs ms, ns row) := by
    rw [putsD_app (by simp [nIs, hl]) (nIs_nodup nd) (by simp)]; simp
  refine ⟨(putsD (nIs (List.range n)) ((List.range n).map fun _ => D.int 0) (nIs ms) (ns row)).1, (putsD (nIs (List.range n)) ((List.range n).map fun _ => D.int 0) (nIs ms) (ns row)).2, ?_, ?_⟩
  · show (match asInts (ns ms) with
    | some is => if (ns ms).length + (nIs (List.range n)).length ≤ LIM ∧ D.nls ((List.range n).map fun _ => D.int 0) = true ∧ D.nls (ns row) = true then
        some (D.dct (putsD (putsD [] [] (nIs (List.range n)) ((List.range n).map fun _ => D.int 0)).1 (putsD [] [] (nIs (List.range n)) ((List.range n).map fun _ => D.int 0)).2 (putsD [] [] is (ns row)).1 (putsD [] [] is (ns row)).2).1 (putsD (putsD [] [] (nIs (List.range n)) ((List.range n).map fun _ => D.int 0)).1 (putsD [] [] (nIs (List.range n)) ((List.range n).map fun _ => D.int 0)).2 (putsD [] [] is (ns row)).1 (putsD [] [] is (ns row)).2).2) else none
    | none => none) = _
    rw [asInts_ns2]
    simp only [z1, z2]
    rw [if_pos ⟨by simp [nIs, LIM]; omega, clean_map fun _ => rfl, cl_ns⟩]
  · intro e he ts
    show look _ _ _ = _
    rw [putsD_look (by simp [nIs]) (by simp [nIs, hl]) (nIs_nodup nd), look_row hl, look_zero (List.mem_range.mpr he)]
    by_cases h : e ∈ ms
    · simp [h]
    · simp [h, atR_not h]
theorem mats_sub {h : Hs} {j e : Nat} (he : e ∈ mats h j) : e ∈ eyesOf h j := by
  simp only [mats, List.mem_map, List.mem_filter] at he
  obtain ⟨p, ⟨hp, _⟩, rfl⟩ := he
  exact List.mem_of_getElem? (List.mem_zipIdx_iff_getElem?.mp hp)
theorem zipIdx_fst {l : List Nat} {k : Nat} : (l.zipIdx k).map (·.1) = l := by simp
theorem mats_sublist {h : Hs} {j : Nat} : (mats h j).Sublist (eyesOf h j) := by
  have : ((eyesOf h j).zipIdx.map (·.1)) = eyesOf h j := zipIdx_fst
  have s := (List.filter_sublist (p := fun p => matB h j p.2) (l := (eyesOf h j).zipIdx)).map (·.1)
  rw [this] at s
  exact s
theorem atR_lt {h : Hs} {e : Nat} (pos : 0 < szs h e) : ∀ {ms row : List Nat}, Vr row (ms.map (szs h)) → atR ms row e < szs h e
  | [], _, _ => by simp [atR]; exact pos
  | m :: ms, [], _ => by simp [atR]; exact pos
  | m :: ms, v :: row, hv => by
    rw [atR]
    split
    · rename_i z; subst z; exact hv.1
    · exact atR_lt pos hv.2
theorem vr_map {h : Hs} {g : Nat → Nat} : ∀ {eyes : List Nat}, (∀ e ∈ eyes, g e < szs h e) → Vr (eyes.map g) (eyes.map (szs h))
  | [], _ => trivial
  | e :: eyes, hg => ⟨hg e (by simp), vr_map fun q hq => hg q (by simp [hq])⟩
theorem fill_ok {h : Hs} {j : Nat} {f : Fd} {row : List Nat} (ok : HsOk h) (e : h[j]? = some f) (hv : Vr row ((mats h j).map (szs h))) : Vr (fillR f.eyes (mats h j) row) (f.eyes.map (szs h)) :=
  vr_map fun q hq => atR_lt (szs_pos ok ((ok.fd f (List.mem_of_getElem? e)).eh q hq)) hv
def taBody : Stm := .seq (.asg 6 false (.dmg 3 2 5)) (.seq (.app 4 (.fn 17 (.cn (.var 0) (.cn (.var 1) (.cn (.lc [7] (.one 7) (.sq (.idx (.idx (.var 0) (.var 1)) (.glb "WATCHED_houses" 1))) (.bl true) (.idx (.var 6) (.var 7)) false) .nl))))) .nil)
theorem bs_dmg {F : FT} {ρ : Env} {ts : Tin} {i j k : Nat} {x y z d : D} (h1 : getE ρ i = some (.p x)) (h2 : getE ρ j = some (.p y)) (h3 : getE ρ k = some (.p z)) (h : dmgD x y z = some d) : ev F (.dmg i j k) ρ ts = some (.p d, ts) := by
  simp only [ev, h1, h2, h3, h, Option.map_some]
def zeros (h : Hs) : D := .dct (nIs (List.range h.length)) ((List.range h.length).map fun _ => D.int 0)
theorem ta_loop {l : Nat} {h : Hs} {j : Nat} {f : Fd} {ts : Tin} {x7 : Option R} (ok : HsOk h) (e : h[j]? = some f) : ∀ {rows : List (List Nat)} {fd : List Nat} {a b : Option R}, (∀ r ∈ rows, Vr r ((mats h j).map (szs h))) → fd.length + rows.length ≤ 400000 →
    ∃ a' b', forL (turn (FL (l + 2)) (.one 5) taBody) (rows.map tns) [some (.p (encH h)), some (.p (.int (j : Nat))), some (.p (tns (mats h j))), some (.p (zeros h)), some (.o1 (ns fd)), a, b, x7] ts
      = some (.nx [some (.p (encH h)), some (.p (.int (j : Nat))), some (.p (tns (mats h j))), some (.p (zeros h)), some (.o1 (ns (fd ++ rows.map fun row => tabAt h j (fillR f.eyes (mats h j) row)))), a', b', x7], ts)
  | [], fd, a, b, _, _ => ⟨a, b, by simp; rfl⟩
  | r :: rows, fd, a, b, hr, lf => by
    simp only [List.length_cons] at lf
    have hv := hr r (by simp)
    have fo := ok.fd f (List.mem_of_getElem? e)
    have ee := eyes_at e
    have hl := hv.len
    rw [List.length_map] at hl
    have sl := mats_sublist (h := h) (j := j)
    rw [ee] at sl
    have nd : (mats h j).Nodup := (fo.er.sublist sl).imp fun {a b} (z : a < b) => by omega
    have l8 := Nat.le_trans sl.length_le fo.el
    obtain ⟨ks, vs, ed, el⟩ := dmg_look (n := h.length) hl.symm ok.l8 l8 nd rfl
    obtain ⟨a', b', ih⟩ := ta_loop (l := l) (ts := ts) (x7 := x7) ok e (rows := rows) (fd := fd ++ [tabAt h j (fillR f.eyes (mats h j) r)]) (a := some (.p (tns r))) (b := some (.p (.dct ks vs))) (fun q hq => hr q (by simp [hq])) (by simp; omega)
    refine ⟨a', b', ?_⟩
    have st : turn (FL (l + 2)) (.one 5) taBody [some (.p (encH h)), some (.p (.int (j : Nat))), some (.p (tns (mats h j))), some (.p (zeros h)), some (.o1 (ns fd)), a, b, x7] (tns r) ts
        = some (.nx [some (.p (encH h)), some (.p (.int (j : Nat))), some (.p (tns (mats h j))), some (.p (zeros h)), some (.o1 (ns (fd ++ [tabAt h j (fillR f.eyes (mats h j) r)]))), some (.p (tns r)), some (.p (.dct ks vs)), x7], ts) := by
      have e2 : ns (fd ++ [tabAt h j (fillR f.eyes (mats h j) r)]) = ns fd ++ [D.int (tabAt h j (fillR f.eyes (mats h j) r) : Nat)] := ns_app
      rw [e2]
      have ef : ns (fillR f.eyes (mats h j) r) = f.eyes.map fun q => D.int (atR (mats h j) r q : Nat) := by simp [fillR, ns]
      have et := f_tabat (l := l) (ts := ts) ok e (.inr rfl) (tabAt_ok ok e (fill_ok ok e hv))
      refine bturn rfl (bx_seq (bx_asg (bs_dmg rfl rfl rfl ed) rfl) (bx_seq (bx_app (bs_fn (bs_cn (bs_var rfl) (bs_cn (bs_var rfl) (bs_cn (x := .o1 (ns (fillR f.eyes (mats h j) r))) (ts1 := ts) ?_ bs_nl))) et rfl) rfl (by rw [ns_len]; show _ < 1000000; omega)) bx_nil))
      rw [ef]
      exact bs_lc (l := f.eyes) (enc := fun (n : Nat) => .int (n : Int)) _ (bs_sq (bs_idx (bs_idx (bs_var rfl) (bs_var rfl) (idx_h e)) bs_glb fe) rfl) fun q hq => ⟨_, _, rfl, bs_idx (bs_var rfl) (bs_var rfl) (el q (fo.eh q hq) _), rfl⟩
    show forL _ (tns r :: rows.map tns) _ _ = _
    simp only [forL, st]
    rw [List.map_cons, show fd ++ (tabAt h j (fillR f.eyes (mats h j) r) :: rows.map fun row => tabAt h j (fillR f.eyes (mats h j) row)) = fd ++ [tabAt h j (fillR f.eyes (mats h j) r)] ++ rows.map fun row => tabAt h j (fillR f.eyes (mats h j) row) by simp]
    exact ih
theorem prod_le {l : List Nat} (h : ∀ s ∈ l, s ≤ 5) : prodL l ≤ 5 ^ l.length := by
  induction l with
  | nil => simp [prodL]
  | cons a l ih =>
    rw [prodL_cons, List.length_cons, Nat.pow_succ, Nat.mul_comm]
    exact Nat.mul_le_mul (ih fun s hs => h s (by simp [hs])) (h a (by simp))
theorem f_anew {l : Nat} {h : Hs} {j : Nat} {ts : Tin} (ok : HsOk h) (hj : j < h.length) : FL (l + 3) 23 [encH h, .int (j : Nat), tns (mats h j), zeros h] ts = some (.p (encF (leanF h j)), ts) := by
  obtain ⟨f, e⟩ := at_lt hj
  have fo := ok.fd f (List.mem_of_getElem? e)
  have ee := eyes_at e
  have sl := mats_sublist (h := h) (j := j)
  rw [ee] at sl
  have l8 := Nat.le_trans sl.length_le fo.el
  have h5 : ∀ s ∈ (mats h j).map (szs h), s ≤ 5 := fun s hs => by obtain ⟨p, _, rfl⟩ := List.mem_map.mp hs; exact szs5 ok p
  have hp : 5 ^ ((mats h j).map (szs h)).length ≤ 5 ^ 8 := Nat.pow_le_pow_right (by omega) (by rw [List.length_map]; exact l8)
  have hp2 := prod_le h5
  obtain ⟨a', b', e1⟩ := ta_loop (l := l) (ts := ts) (x7 := none) ok e (rows := allR ((mats h j).map (szs h))) (fd := []) (a := none) (b := none) (fun r hr => allR_mem.mp hr) (by rw [allR_len]; simp at hp hp2 ⊢; omega)
  rw [List.nil_append] at e1
  have ef : encF (leanF h j) = .tup [.tup (f.vals.map .str), tns (mats h j), tns ((allR ((mats h j).map (szs h))).map fun row => tabAt h j (fillR f.eyes (mats h j) row))] := by simp [leanF, e, encF]
  rw [ef]
  refine FL_rt rfl rfl (bx_seq (bx_asg (bs_lst bs_nl (by decide)) rfl) (bx_seq (bx_for (bs_sq (bs_fn (bs_cn (bs_fn (bs_cn (bs_var rfl) (bs_cn (bs_var rfl) bs_nl)) (f_sizes (.inl rfl) fun p hp => fo.eh p (sl.subset hp)) cl_ns) bs_nl) (f_allrows h5 (by rw [List.length_map]; exact l8)) (clean_map fun _ => cl_tns)) rfl) e1)
    (bx_rt (bx_ret (bs_brw (bs_tup (bs_cn (bs_bi (r := .p (.tup (f.vals.map .str))) (bs_cn (bs_idx (bs_idx (bs_var rfl) (bs_var rfl) (idx_h e)) bs_glb fv) bs_nl) rfl) (bs_cn (bs_bi (r := .p (tns (mats h j))) (bs_cn (bs_var rfl) bs_nl) rfl) (bs_cn (bs_bi (r := .p (tns ((allR ((mats h j).map (szs h))).map fun row => tabAt h j (fillR f.eyes (mats h j) row)))) (bs_cn (bs_var rfl) bs_nl) rfl) bs_nl))) (show 3 ≤ 1000000 by omega)) ?_) ?_))))
  · rw [← ef]; exact cl_f
  · rw [← ef]; exact cl_f
theorem f_lean {l : Nat} {h : Hs} {ts : Tin} (ok : HsOk h) : FL (l + 6) 24 [encH h] ts = some (.p (encH (leanH h)), ts) := by
  have l8 := ok.l8
  have e1 := dc_zero (f := dcT (FL (l + 5)) [3] (.one 3) (.var 3) (.int 0) [some (.p (encH h)), some (.p (encH h)), none, none]) (ts := ts) (l := List.range h.length) (ks := []) (vs := []) (fun n hn => dcT_one rfl (bs_var rfl) bs_int rfl) List.nodup_range (by simp)
  rw [List.nil_append, List.nil_append] at e1
  have e2 : encH (leanH h) = .tup ((List.range h.length).map fun j => encF (leanF h j)) := by simp [encH, leanH]
  rw [e2]
  refine FL_rt rfl rfl (bx_seq (bx_asg (bs_fn (bs_cn (bs_var rfl) bs_nl) f_tuph cl_h) rfl)
    (bx_seq (bx_asg (r := .p (zeros h)) (bs_dc (bs_rng (bs_bi (bs_cn (bs_var rfl) bs_nl) len_h) (rngD_nat (by omega))) e1) rfl)
    (bx_rt (bx_ret (bs_bi (bs_cn (bs_lc (l := List.range h.length) (enc := fun (n : Nat) => .int (n : Int)) (fun j => encF (leanF h j)) (bs_rng (bs_bi (bs_cn (bs_var rfl) bs_nl) len_h) (rngD_nat (by omega))) fun j hj => ⟨_, _, rfl, (bs_fn (bs_cn (bs_var rfl) (bs_cn (bs_var rfl) (bs_cn (bs_fn (bs_cn (bs_var rfl) (bs_cn (bs_var rfl) bs_nl)) (f_matters ok (List.mem_range.mp hj)) cl_tns) (bs_cn (bs_var rfl) bs_nl)))) (f_anew ok (List.mem_range.mp hj)) cl_f), rfl⟩) bs_nl) rfl) (clean_map fun _ => cl_f)))))
end Lt.Mt

namespace Lt.Mt
open PySem

/-! ### draws -/
/-- a source of draws that has counted at most n -/
def OkT (n : Nat) (ts : Tin) : Prop := ∃ a b c : Int, ts = [a, b, c] ∧ 0 ≤ a ∧ 0 ≤ c ∧ c ≤ n
theorem OkT.mono {n m : Nat} {ts : Tin} (h : OkT n ts) (hm : n ≤ m) : OkT m ts := by
  obtain ⟨a, b, c, e, h1, h2, h3⟩ := h
  exact ⟨a, b, c, e, h1, h2, by omega⟩
theorem mul_r {i j : Int} (h : -1000000000000 ≤ j ∧ j ≤ 1000000000000) : mulD (.int i) (.int j) = some (.p (.int (i * j))) := by
  have : smallI j = true := by simp only [smallI, Bool.and_eq_true, decide_eq_true_eq]; omega
  simp only [mulD, this, Bool.or_true, if_true]
theorem mul_l {i j : Int} (h : -1000000000000 ≤ i ∧ i ≤ 1000000000000) : mulD (.int i) (.int j) = some (.p (.int (i * j))) := by
  have : smallI i = true := by simp only [smallI, Bool.and_eq_true, decide_eq_true_eq]; omega
  simp only [mulD, this, Bool.true_or, if_true]
theorem mod_p {i j : Int} (h : 0 < j) : modD (.int i) (.int j) = some (.p (.int (i % j))) := by simp only [modD, if_pos h]
theorem fdiv_p {i j : Int} (h : 0 < j ∧ j < 1073741824) : fdivD (.int i) (.int j) = some (.p (.int (i / j))) := by simp only [fdivD, if_pos h]
theorem take_i {l k n : Nat} {ts : Tin} (h0 : 0 < n) (hn : n ≤ 100000) (ok : OkT k ts) (hk : k ≤ 1000000000) : ∃ v ts', FL (l + 1) 51 [.tin, .int (n : Nat)] ts = some (.p (.int v), ts') ∧ 0 ≤ v ∧ v < (n : Int) ∧ OkT (k + 1) ts' := by
  obtain ⟨a, b, c, rfl, ha, hc, hck⟩ := ok
  have hp : (0 : Int) < (n : Int) := by omega
  by_cases h : 0 < a
  · have ec : ev (FL l) (.cmp .gt (.idx (.var 0) (.int 0)) (.int 0)) [some (.p .tin), some (.p (.int (n : Nat))), none, none, none, none] [a, b, c] = some (.p (.bl true), [a, b, c]) :=
      bs_cmp (bs_idx (bs_var rfl) bs_int rfl) bs_int (by show some (decide ((0 : Int) < a)) = some true; simp [h])
    refine ⟨a % n, [a / n, b, c], FL_rt rfl rfl (bx_rt (bx_ifT ec (bx_seq (bx_asg (bs_mod (bs_bi (r := .p (.int a)) (bs_cn (bs_idx (bs_var rfl) bs_int rfl) bs_nl) rfl) (bs_var rfl) (mod_p hp)) rfl) (bx_seq (bx_stoT (n := 0) (bs_fdiv (bs_idx (bs_var rfl) bs_int rfl) (bs_var rfl) (fdiv_p ⟨hp, by omega⟩)) bs_int rfl rfl) (bx_rt (bx_ret (bs_var rfl) rfl)))))), Int.emod_nonneg _ (by omega), Int.emod_lt_of_pos _ hp, ⟨a / n, b, c, rfl, Int.ediv_nonneg ha (by omega), hc, by omega⟩⟩
  · have ec : ev (FL l) (.cmp .gt (.idx (.var 0) (.int 0)) (.int 0)) [some (.p .tin), some (.p (.int (n : Nat))), none, none, none, none] [a, b, c] = some (.p (.bl false), [a, b, c]) :=
      bs_cmp (bs_idx (bs_var rfl) bs_int rfl) bs_int (by show some (decide ((0 : Int) < a)) = some false; simp; omega)
    have w1 : ∀ x : Int, 0 ≤ x % 40009 := fun x => Int.emod_nonneg _ (by omega)
    have w2 : ∀ x : Int, x % 40009 < 40009 := fun x => Int.emod_lt_of_pos _ (by omega)
    refine ⟨_, [a, b, c + 1], FL_rt rfl rfl (bx_seq (bx_ifF ec bx_nil) (bx_seq (bx_stoT (n := 2) (bs_add (bs_idx (bs_var rfl) bs_int rfl) bs_int rfl) bs_int rfl rfl)
      (bx_seq (bx_asg (bs_mod (bs_bi (bs_cn (bs_mul (bs_add (bs_idx (bs_var rfl) bs_int rfl) (bs_mul bs_int (bs_idx (bs_var rfl) bs_int rfl) (mul_l ⟨by omega, by omega⟩)) rfl) (bs_add bs_int (bs_idx (bs_var rfl) bs_int rfl) rfl) (mul_r ⟨by omega, by omega⟩)) bs_nl) rfl) bs_int (mod_p (by omega))) rfl)
      (bx_seq (bx_asg (bs_add (bs_mod (bs_bi (bs_cn (bs_var rfl) bs_nl) rfl) bs_int (mod_p (by omega))) bs_int rfl) rfl)
      (bx_seq (bx_asg (bs_mod (bs_bi (bs_cn (bs_mul (bs_add (bs_add (bs_var rfl) (bs_idx (bs_var rfl) bs_int rfl) rfl) (bs_fdiv (bs_idx (bs_var rfl) bs_int rfl) bs_int (fdiv_p ⟨by omega, by omega⟩)) rfl) (bs_var rfl) (mul_r ?_)) bs_nl) rfl) bs_int (mod_p (by omega))) rfl)
      (bx_rt (bx_ret (bs_mod (bs_bi (bs_cn (bs_fdiv (bs_mod (bs_bi (bs_cn (bs_add (bs_mul (bs_var rfl) bs_int (mul_r ⟨by omega, by omega⟩)) (bs_var rfl) rfl) bs_nl) rfl) bs_int (mod_p (by omega))) bs_int (fdiv_p ⟨by omega, by omega⟩)) bs_nl) rfl) (bs_var rfl) (mod_p hp)) rfl))))))), Int.emod_nonneg _ (by omega), Int.emod_lt_of_pos _ hp, ⟨a, b, c + 1, rfl, ha, by omega, by omega⟩⟩
    constructor
    · have := w1 ((b + 48271 * (c + 1)) * (39373 + (c + 1)) % 2147483647); omega
    · have := w2 ((b + 48271 * (c + 1)) * (39373 + (c + 1)) % 2147483647); omega
theorem f_take {l k n : Nat} {ts : Tin} (h0 : 0 < n) (hn : n ≤ 100000) (ok : OkT k ts) (hk : k ≤ 1000000000) : ∃ (v : Nat) (ts' : Tin), FL (l + 1) 51 [.tin, .int (n : Nat)] ts = some (.p (.int (v : Nat)), ts') ∧ v < n ∧ OkT (k + 1) ts' := by
  obtain ⟨v, ts', e, h1, h2, h3⟩ := take_i (l := l) h0 hn ok hk
  obtain ⟨w, rfl⟩ := Int.eq_ofNat_of_zero_le h1
  exact ⟨w, ts', e, by omega, h3⟩
theorem f_of {l k : Nat} {α : Type} {enc : α → D} {xs : List α} {ts : Tin} (h0 : xs ≠ []) (hn : xs.length ≤ 100000) (cl : ∀ a, (enc a).nl = true) (ok : OkT k ts) (hk : k ≤ 1000000000) : ∃ (a : α) (ts' : Tin), FL (l + 2) 53 [.tin, .lst (xs.map enc)] ts = some (.p (enc a), ts') ∧ a ∈ xs ∧ OkT (k + 1) ts' := by
  obtain ⟨v, ts', e, h1, h2⟩ := f_take (l := l) (List.length_pos_iff.mpr h0) hn ok hk
  refine ⟨xs[v], ts', FL_rt rfl rfl (bx_rt (bx_ret (bs_idx (d := enc xs[v]) (bs_var rfl) (bs_fn (bs_cn (bs_var rfl) (bs_cn (bs_bi (bs_cn (bs_var rfl) bs_nl) len_lm) bs_nl)) e rfl) (idx_l (List.getElem?_eq_getElem h1))) (cl _))), List.getElem_mem _, h2⟩
theorem eraseIdx_map {α : Type} {enc : α → D} : ∀ {l : List α} {i : Nat}, (l.map enc).eraseIdx i = (l.eraseIdx i).map enc
  | [], _ => rfl
  | a :: l, 0 => rfl
  | a :: l, i + 1 => by simp [List.eraseIdx, eraseIdx_map (l := l) (i := i)]
theorem erase_perm {α : Type} : ∀ {l : List α} {i : Nat} (h : i < l.length), (l[i] :: l.eraseIdx i).Perm l
  | [], _, h => by simp at h
  | a :: l, 0, _ => List.Perm.refl _
  | a :: l, i + 1, h => by
    have ih := erase_perm (l := l) (i := i) (by simpa using h)
    exact (List.Perm.swap a (l[i]'(by simpa using h)) _).trans (ih.cons a)
/-- drawn without laying back: what is found and what is left are the goods in another order -/
theorem pick_loop {l : Nat} {x1 x2 : Option R} : ∀ {q : List D} {k : Nat} {ts : Tin} {pool fd : List Nat} {a : Option R}, q.length ≤ pool.length → pool.length ≤ 1000 → fd.length + pool.length ≤ 1000 → OkT k ts → k + q.length ≤ 1000000000 →
    ∃ a' pool' fd' ts', forL (turn (FL (l + 1)) (.one 3) (.seq (.apop 5 4 (.brw (.fn 51 (.cn (.var 0) (.cn (.bi .len (.cn (.var 4) .nl)) .nl))))) .nil)) q [some (.p .tin), x1, x2, a, some (.o1 (ns pool)), some (.o1 (ns fd))] ts
      = some (.nx [some (.p .tin), x1, x2, a', some (.o1 (ns pool')), some (.o1 (ns fd'))], ts') ∧ OkT (k + q.length) ts' ∧ (fd' ++ pool').Perm (fd ++ pool) ∧ fd'.length = fd.length + q.length
  | [], k, ts, pool, fd, a, _, _, _, ok, _ => ⟨a, pool, fd, ts, rfl, ok, List.Perm.refl _, rfl⟩
  | d :: q, k, ts, pool, fd, a, hq, hp, hs, ok, hk => by
    simp only [List.length_cons] at hq hk
    obtain ⟨v, ts1, e, hv, ok1⟩ := f_take (l := l) (n := pool.length) (by omega) (by omega) ok (by omega)
    have hle := List.length_eraseIdx_of_lt hv
    obtain ⟨a', pool', fd', ts', ih, ok2, pm, ln⟩ := pick_loop (l := l) (x1 := x1) (x2 := x2) (q := q) (k := k + 1) (ts := ts1) (pool := pool.eraseIdx v) (fd := fd ++ [pool[v]]) (a := some (.p d)) (by omega) (by omega) (by simp; omega) ok1 (by omega)
    have e4 : FL (l + 1) 51 [D.tin, D.int ((ns pool).length : Nat)] ts = some (.p (.int (v : Nat)), ts1) := by rw [ns_len]; exact e
    have st : turn (FL (l + 1)) (.one 3) (.seq (.apop 5 4 (.brw (.fn 51 (.cn (.var 0) (.cn (.bi .len (.cn (.var 4) .nl)) .nl))))) .nil) [some (.p .tin), x1, x2, a, some (.o1 (ns pool)), some (.o1 (ns fd))] d ts = some (.nx [some (.p .tin), x1, x2, some (.p d), some (.o1 (ns (pool.eraseIdx v))), some (.o1 (ns (fd ++ [pool[v]])))], ts1) := by
      have e2 : ns (fd ++ [pool[v]]) = ns fd ++ [D.int (pool[v] : Nat)] := ns_app
      have e3 : ns (pool.eraseIdx v) = (ns pool).eraseIdx v := eraseIdx_map.symm
      rw [e2, e3]
      exact bturn rfl (bx_seq (bx_apop (n := v) (d := .int (pool[v] : Nat)) (bs_brw (bs_fn (bs_cn (bs_var rfl) (bs_cn (bs_bi (bs_cn (bs_var rfl) bs_nl) len_l) bs_nl)) e4 rfl) rfl) rfl rfl (ixN_nat (by rw [ns_len]; exact hv)) (by simp [ns, hv]) (by rw [ns_len]; show _ < 1000000; omega) (by decide)) bx_nil)
    refine ⟨a', pool', fd', ts', ?_, ok2.mono (by simp only [List.length_cons]; omega), ?_, by rw [ln]; simp; omega⟩
    · show forL _ (d :: q) _ _ = _
      simp only [forL, st]
      exact ih
    · refine pm.trans ?_
      rw [List.append_assoc]
      refine List.Perm.append_left fd ?_
      rw [List.singleton_append]
      exact erase_perm hv
theorem min2_n {a b : Nat} : min2D [.int (a : Nat), .int (b : Nat)] = some (.p (.int ((min a b : Nat) : Int))) := by
  simp only [min2D]
  congr 3
  split <;> omega
theorem f_pick {l k n : Nat} {goods : List Nat} {ts : Tin} (hg : goods.length ≤ 1000) (ok : OkT k ts) (hk : k ≤ 100000000) : ∃ (fd rest : List Nat) (ts' : Tin), FL (l + 2) 54 [.tin, .lst (ns goods), .int (n : Nat)] ts = some (.o1 (ns fd), ts') ∧ OkT (k + 1000) ts' ∧ (fd ++ rest).Perm goods ∧ fd.length = min n goods.length := by
  have hm : min n goods.length ≤ 1000 := by omega
  obtain ⟨a', pool', fd', ts', e, ok2, pm, ln⟩ := pick_loop (l := l) (x1 := some (.p (.lst (ns goods)))) (x2 := some (.p (.int (n : Nat)))) (q := ns (List.range (min n goods.length))) (k := k) (ts := ts) (pool := goods) (fd := []) (a := none) (by simp; omega) hg (by simp; omega) ok (by simp; omega)
  refine ⟨fd', pool', ts', FL_rt rfl rfl (bx_seq (bx_par (bs_bi (bs_cn (bs_var rfl) bs_nl) rfl) (bs_lst bs_nl (by decide)) rfl rfl) (bx_seq (bx_for (bs_rng (bs_brw (bs_bi (r := .p (.int ((min n goods.length : Nat) : Int))) (bs_cn (bs_bi (r := .p (.int (n : Nat))) (bs_cn (bs_var rfl) bs_nl) rfl) (bs_cn (bs_bi (bs_cn (bs_var rfl) bs_nl) len_lm) bs_nl)) min2_n) rfl) (rngD_nat (by omega))) e) (bx_rt (bx_retv rfl cl_ns)))), ok2.mono (by simp; omega), by simpa using pm, by rw [ln]; simp⟩
end Lt.Mt

namespace Lt.Mt
open PySem

/-! ### the law's own rows -/
theorem growR_inv : ∀ {fd : List (List Nat)} {s i : Nat} {x : List Nat}, (growR fd s)[i]? = some x → ∃ k o n, fd[k]? = some o ∧ n < s ∧ x = o ++ [n] ∧ i = k * s + n
  | [], s, i, x, h => by simp [growR] at h
  | a :: fd, s, i, x, h => by
    rw [growR_cons] at h
    by_cases hi : i < s
    · rw [List.getElem?_append_left (by simp [hi]), List.getElem?_map, List.getElem?_range hi] at h
      simp only [Option.map_some, Option.some.injEq] at h
      exact ⟨0, a, i, rfl, hi, h.symm, by simp⟩
    · rw [List.getElem?_append_right (by simp; omega)] at h
      simp only [List.length_map, List.length_range] at h
      obtain ⟨k, o, n, h1, h2, h3, h4⟩ := growR_inv h
      refine ⟨k + 1, o, n, by simpa using h1, h2, h3, ?_⟩
      rw [Nat.add_mul]; omega
theorem foldR_inv : ∀ {ss : List Nat} {fd : List (List Nat)} {i : Nat} {x : List Nat}, (ss.foldl growR fd)[i]? = some x → ∃ k o r, fd[k]? = some o ∧ x = o ++ r ∧ Vr r ss ∧ i = (r.zip ss).foldl (fun n p => n * p.2 + p.1) k
  | [], fd, i, x, h => ⟨i, x, [], h, by simp, trivial, rfl⟩
  | s :: ss, fd, i, x, h => by
    obtain ⟨k, o, r, h1, rfl, hv, rfl⟩ := foldR_inv (ss := ss) (fd := growR fd s) h
    obtain ⟨k', o', n, h2, h3, rfl, rfl⟩ := growR_inv h1
    exact ⟨k', o', n :: r, h2, by simp, ⟨h3, hv⟩, rfl⟩
theorem allR_inv {ss : List Nat} {i : Nat} {r : List Nat} (h : (allR ss)[i]? = some r) : i = hor (r.zip ss) := by
  obtain ⟨k, o, q, h1, rfl, _, rfl⟩ := foldR_inv h
  cases k with
  | zero => simp at h1; subst h1; simp [hor]
  | succ k => simp at h1
def lrIn : Stm := .seq (.asg 3 true (.brw (.add (.var 3) (.lc [5] (.one 5) (.rng (.var 2)) (.bl true) (.add (.var 4) (.tup (.cn (.var 5) .nl))) false)))) .nil
theorem lr_in {F : FT} {ts : Tin} {x0 x1 x5 : Option R} {s : Nat} (hs : s ≤ 5) : ∀ {os : List (List Nat)} {acc : List (List Nat)} {a : Option R}, acc.length + os.length * s ≤ 1000000 → (∀ o ∈ os, o.length < 1000) →
    ∃ a', forL (turn F (.one 4) lrIn) (os.map tns) [x0, x1, some (.p (.int (s : Nat))), some (.o1 (acc.map tns)), a, x5] ts = some (.nx [x0, x1, some (.p (.int (s : Nat))), some (.o1 ((acc ++ growR os s).map tns)), a', x5], ts)
  | [], acc, a, _, _ => ⟨a, by simp [growR]; rfl⟩
  | o :: os, acc, a, hl, ho => by
    have hol := ho o (by simp)
    have e1 : (o :: os).length * s = s + os.length * s := by rw [List.length_cons, Nat.add_mul]; omega
    obtain ⟨a', ih⟩ := lr_in (F := F) (ts := ts) (x0 := x0) (x1 := x1) (x5 := x5) hs (os := os) (acc := acc ++ (List.range s).map fun n => o ++ [n]) (a := some (.p (tns o))) (by simp; omega) (fun q hq => ho q (by simp [hq]))
    refine ⟨a', ?_⟩
    have e2 : (acc ++ (List.range s).map fun n => o ++ [n]).map tns = acc.map tns ++ (List.range s).map fun n => tns (o ++ [n]) := by simp
    have st : turn F (.one 4) lrIn [x0, x1, some (.p (.int (s : Nat))), some (.o1 (acc.map tns)), a, x5] (tns o) ts = some (.nx [x0, x1, some (.p (.int (s : Nat))), some (.o1 ((acc ++ (List.range s).map fun n => o ++ [n]).map tns)), some (.p (tns o)), x5], ts) := by
      rw [e2]
      refine bturn rfl (bx_seq (bx_asg (r := .o1 (acc.map tns ++ (List.range s).map fun n => tns (o ++ [n]))) (bs_brw (bs_add (bs_var rfl) (y := .o1 ((List.range s).map fun n => tns (o ++ [n]))) (ts2 := ts) ?_ ?_) ?_) rfl) bx_nil)
      · refine bs_lc (l := List.range s) (enc := fun (n : Nat) => .int (n : Int)) _ (bs_rng (bs_var rfl) (rngD_nat (by omega))) fun n hn => ⟨_, _, rfl, bs_add (r := .p (tns (o ++ [n]))) (bs_var rfl) (bs_tup (bs_cn (bs_var rfl) bs_nl) (show 1 ≤ 1000000 by omega)) ?_, rfl⟩
        show addD (.tup (ns o)) (.tup [.int (n : Nat)]) = _
        rw [addD, if_pos (show _ ≤ LIM by simp [LIM]; omega), tns, ns_app]
        rfl
      · show addD (.lst (acc.map tns)) (.lst _) = _
        rw [addD, if_pos]
        simp [LIM]; omega
      · exact nls_all fun x hx => by
          rcases List.mem_append.mp hx with h | h
          · obtain ⟨y, _, rfl⟩ := List.mem_map.mp h; exact cl_tns
          · obtain ⟨y, _, rfl⟩ := List.mem_map.mp h; exact cl_tns
    show forL _ (tns o :: os.map tns) _ _ = _
    simp only [forL, st]
    rw [growR_cons, ← List.append_assoc]
    exact ih
def lrBody : Stm := .seq (.asg 3 true (.lst .nl)) (.seq (.frz 1) (.seq (.for_ (.one 4) (.sq (.var 1)) lrIn) (.seq (.mov 1 3) .nil)))
theorem lr_loop {F : FT} {ts : Tin} {x0 x5 : Option R} : ∀ {ss : List Nat} {fd : List (List Nat)} {a b c : Option R}, (∀ s ∈ ss, s ≤ 5) → fd.length * 5 ^ ss.length ≤ 1000000 → (∀ r ∈ fd, r.length + ss.length < 1000) →
    ∃ a' b' c', forL (turn F (.one 2) lrBody) (ns ss) [x0, some (.o1 (fd.map tns)), a, b, c, x5] ts = some (.nx [x0, some (.o1 ((ss.foldl growR fd).map tns)), a', b', c', x5], ts)
  | [], fd, a, b, c, _, _, _ => ⟨a, b, c, rfl⟩
  | s :: ss, fd, a, b, c, h5, hl, hr => by
    have hs := h5 s (by simp)
    have hlen : (growR fd s).length * 5 ^ ss.length ≤ 1000000 := by
      rw [growR_len]
      refine Nat.le_trans ?_ hl
      rw [List.length_cons, Nat.pow_succ]
      have e1 : fd.length * s * 5 ^ ss.length = fd.length * (5 ^ ss.length * s) := by rw [Nat.mul_assoc, Nat.mul_comm s]
      rw [e1]
      exact Nat.mul_le_mul_left _ (Nat.mul_le_mul_left _ hs)
    have h1 : (growR fd s).length ≤ 1000000 := Nat.le_trans (Nat.le_mul_of_pos_right _ (Nat.pow_pos (by omega))) hlen
    rw [growR_len] at h1
    obtain ⟨c1, e1⟩ := lr_in (F := F) (ts := ts) (x0 := x0) (x1 := some (.p (.lst (fd.map tns)))) (x5 := x5) hs (os := fd) (acc := []) (a := c) (by simpa using h1) (fun r hz => by have := hr r hz; omega)
    rw [List.nil_append, List.map_nil] at e1
    obtain ⟨a', b', c', ih⟩ := lr_loop (F := F) (ts := ts) (x0 := x0) (x5 := x5) (ss := ss) (fd := growR fd s) (a := some (.p (.int s))) (b := none) (c := c1) (fun z hz => h5 z (by simp [hz])) hlen (by
      intro r hr'
      simp only [growR, List.mem_flatMap, List.mem_map] at hr'
      obtain ⟨o, ho, n, _, rfl⟩ := hr'
      have := hr o ho
      simp only [List.length_append, List.length_cons, List.length_nil] at this ⊢
      omega)
    refine ⟨a', b', c', ?_⟩
    have st : turn F (.one 2) lrBody [x0, some (.o1 (fd.map tns)), a, b, c, x5] (.int (s : Nat)) ts = some (.nx [x0, some (.o1 ((growR fd s).map tns)), some (.p (.int (s : Nat))), none, c1, x5], ts) :=
      bturn rfl (bx_seq (bx_asg (bs_lst bs_nl (by decide)) rfl) (bx_seq (bx_frz rfl) (bx_seq (bx_for (bs_sq (bs_var rfl) rfl) e1) (bx_seq (bx_mov rfl rfl) bx_nil))))
    show forL _ (D.int (s : Int) :: ns ss) _ _ = _
    simp only [forL, st]
    exact ih
theorem f_lrows {l : Nat} {ss : List Nat} {ts : Tin} (h5 : ∀ s ∈ ss, s ≤ 5) (h8 : ss.length ≤ 8) : FL (l + 1) 56 [.lst (ns ss)] ts = some (.o1 ((allR ss).map tns), ts) := by
  have hp : 5 ^ ss.length ≤ 5 ^ 8 := Nat.pow_le_pow_right (by omega) h8
  obtain ⟨a', b', c', e⟩ := lr_loop (F := FL l) (ts := ts) (x0 := some (.p (.lst (ns ss)))) (x5 := none) (ss := ss) (fd := [[]]) (a := none) (b := none) (c := none) h5 (by simp; omega) (by simp; omega)
  exact FL_rt rfl rfl (bx_seq (bx_asg (bs_lst (bs_cn (bs_tup bs_nl (by decide)) bs_nl) (by decide)) rfl) (bx_seq (bx_for (bs_sq (bs_var rfl) rfl) e) (bx_rt (bx_retv rfl (clean_map fun _ => cl_tns)))))
theorem f_lsizes {l : Nat} {h : Hs} {ps : List Nat} {ts : Tin} {d : D} (hd : d = tns ps ∨ d = .lst (ns ps)) (hp : ∀ p ∈ ps, p < h.length) : FL (l + 1) 57 [encH h, d] ts = some (.o1 (ns (ps.map (szs h))), ts) := by
  have e : seqD d = some (ps.map fun (n : Nat) => D.int (n : Int)) := by rcases hd with rfl | rfl <;> rfl
  have e2 : ns (ps.map (szs h)) = ps.map fun p => D.int (szs h p : Nat) := by simp [ns]
  rw [e2]
  refine FL_rt rfl rfl (bx_rt (bx_ret (bs_lc (l := ps) (enc := fun (n : Nat) => .int (n : Int)) _ (bs_sq (bs_var rfl) e) fun a ha => ?_) (clean_map fun _ => rfl)))
  obtain ⟨f, hf⟩ := at_lt (hp a ha)
  refine ⟨_, _, rfl, bs_bi (bs_cn (bs_idx (bs_idx (bs_var rfl) (bs_var rfl) (idx_h hf)) bs_int fv) bs_nl) len_tm, ?_⟩
  show D.int _ = _
  simp [szs, hf]

/-! ### what a table tells, by the law -/
theorem deq_tns {a b : List Nat} : deq (tns a) (tns b) = decide (a = b) := by
  rw [Bool.eq_iff_iff, deq_iff (k := 1) (ipd_tns (xs := a)) (ipd_tns (xs := b)), decide_eq_true_eq]
  exact ⟨tns_inj a b, fun h => by rw [h]⟩
theorem findD_tns {r : List Nat} : ∀ {ls : List (List Nat)} {n : Nat}, r ∈ ls → ∃ i, findD (tns r) (ls.map tns) n = some (n + i) ∧ ls[i]? = some r
  | [], _, h => by simp at h
  | a :: ls, n, h => by
    by_cases e : a = r
    · subst e
      exact ⟨0, by simp [findD, deq_tns], rfl⟩
    · obtain ⟨i, e1, e2⟩ := findD_tns (ls := ls) (n := n + 1) (by
        rcases List.mem_cons.mp h with z | z
        · exact absurd z.symm e
        · exact z)
      refine ⟨i + 1, ?_, by simpa using e2⟩
      simp only [List.map_cons, findD, deq_tns]
      rw [if_neg (by simpa using e), e1]
      congr 1; omega
theorem f_told {l : Nat} {h : Hs} {j : Nat} {f : Fd} {row : List Nat} {d : D} {ts : Tin} (ok : HsOk h) (hf : h[j]? = some f) (hd : d = tns row ∨ d = .lst (ns row)) (hv : Vr row (f.eyes.map (szs h))) : FL (l + 2) 58 [encH h, .int (j : Int), d] ts = some (.p (.int (tabAt h j row : Nat)), ts) := by
  have fo := ok.fd f (List.mem_of_getElem? hf)
  have h5 : ∀ s ∈ f.eyes.map (szs h), s ≤ 5 := fun s hs => by obtain ⟨p, _, rfl⟩ := List.mem_map.mp hs; exact szs5 ok p
  have h8 : (f.eyes.map (szs h)).length ≤ 8 := by rw [List.length_map]; exact fo.el
  obtain ⟨i, e1, e2⟩ := findD_tns (n := 0) (allR_mem.mpr hv)
  have e3 := allR_inv e2
  subst e3
  have e4 : f.tab[hor (row.zip (f.eyes.map (szs h)))]? = some (tabAt h j row) := by
    rw [getD_at (tabAt_ok ok hf hv) (d := 0)]; simp [tabAt, hf]
  have eb : biD .tuple [d] = some (.p (tns row)) := by rcases hd with rfl | rfl <;> rfl
  refine FL_rt rfl rfl (bx_rt (bx_ret (bs_idx (bs_idx (bs_idx (bs_var rfl) (bs_var rfl) (idx_h hf)) bs_int ft) (bs_mix (r := .p (.int (hor (row.zip (f.eyes.map (szs h))) : Nat))) (bs_fn (bs_cn (bs_fn (bs_cn (bs_var rfl) (bs_cn (bs_idx (bs_idx (bs_var rfl) (bs_var rfl) (idx_h hf)) bs_int fe) bs_nl)) (f_lsizes (.inl rfl) fo.eh) cl_ns) bs_nl) (f_lrows h5 h8) (clean_map fun _ => cl_tns)) (bs_bi (bs_cn (bs_var rfl) bs_nl) eb) ?_) (idx_n e4)) rfl))
  show (if (tns row).ok && (D.lst ((allR (f.eyes.map (szs h))).map tns)).ok then (findD (tns row) ((allR (f.eyes.map (szs h))).map tns) 0).map fun (n : Nat) => R.p (.int (n : Int)) else none) = _
  rw [okD (k := 1) (ipd_tns (xs := row)) (by omega), okD (k := 2) (ipd_l (enc := tns) fun a _ => ipd_tns (k := 0)) (by omega), e1]
  simp

/-! ### versions, played, counts, by the law -/
theorem firstV_zip {h : Hs} {s : St} (so : StOk h s) : firstV h s = (s.st.zip s.old).map fun p => p.2.filter (fun v => decide (v ≠ p.1)) ++ [p.1] := by
  apply List.ext_getElem?
  intro i
  by_cases hi : i < h.length
  · rw [firstV, List.getElem?_map, List.getElem?_range hi, List.getElem?_map]
    have e : (s.st.zip s.old)[i]? = some (s.st.getD i 0, s.old.getD i []) := by
      rw [List.getElem?_zip_eq_some]
      exact ⟨getD_at (by rw [so.sl]; exact hi), getD_at (by rw [so.ol]; exact hi)⟩
    rw [e]; rfl
  · rw [List.getElem?_eq_none (by rw [firstV_len]; omega), List.getElem?_eq_none (by simp [so.sl, so.ol]; omega)]
theorem f_lvers {l : Nat} {h : Hs} {s : St} {ts : Tin} (so : StOk h s) : FL (l + 1) 62 [encS s] ts = some (.o2 ((firstV h s).map ns), ts) := by
  have e : (firstV h s).map ns = (s.st.zip s.old).map fun p => (p.2.filter (fun v => decide (v ≠ p.1))).map (fun (v : Nat) => D.int (v : Int)) ++ [D.int (p.1 : Nat)] := by
    rw [firstV_zip so]
    simp [ns]
  have cl := cl_o2 (rows := firstV h s)
  rw [e] at cl ⊢
  have ez : zipD (ns s.st) (s.old.map tns) = (s.st.zip s.old).map fun p => .tup [.int (p.1 : Nat), tns p.2] := zip_map
  refine FL_rt rfl rfl (bx_rt (bx_ret (bs_lck (l := s.st.zip s.old) (enc := fun p => .tup [.int (p.1 : Nat), tns p.2]) _ (by rw [← ez]; exact bs_zp (bs_idx (bs_var rfl) bs_int rfl) (bs_idx (bs_var rfl) bs_int rfl) rfl rfl) fun p hp => ?_) cl))
  have o8 := so.o8 _ (List.of_mem_zip (show (p.1, p.2) ∈ _ from hp)).2
  refine ⟨_, rfl, bs_add (bs_lcf (l := p.2) (enc := fun (n : Nat) => .int (n : Int)) (fun v => decide (v ≠ p.1)) (fun (n : Nat) => .int (n : Int)) (bs_sq (bs_var rfl) rfl) fun v hv => ⟨_, rfl, bs_cmp (bs_var rfl) (bs_var rfl) ne_int, fun _ => ⟨_, bs_var rfl, rfl⟩⟩) (bs_lst (bs_cn (bs_var rfl) bs_nl) (show 1 ≤ 1000000 by omega)) ?_⟩
  show addD (.lst _) (.lst _) = _
  rw [addD, if_pos]
  · rfl
  · have := List.length_filter_le (fun v => decide (v ≠ p.1)) p.2
    simp only [List.length_map, List.length_cons, List.length_nil, LIM]
    omega
theorem seen_vr {h : Hs} {rows : List (List Nat)} {m : Mv} {f : Fd} (ok : HsOk h) (rw_ : RwOk h rows) (mo : MvOk h rows m) (e : h[m.1]? = some f) : Vr (seenV h rows m.1 m.2) (f.eyes.map (szs h)) := by
  have fo := ok.fd f (List.mem_of_getElem? e)
  have ee := eyes_at e
  have hl := mo.ln
  rw [ee] at hl
  refine vr_of (by simp [seenV, ee, hl]) fun p hp => ?_
  rw [seenV, ee, zip3 hl] at hp
  obtain ⟨q, hq, rfl⟩ := List.mem_map.mp hp
  have hb := mo.bd q (by rw [ee]; exact hq)
  have hq1 := (List.of_mem_zip (show (q.1, q.2) ∈ _ from hq)).1
  exact rw_.lt q.1 (fo.eh _ hq1) _ (getD_mem hb)
def lpBody : Stm := .seq (.asg 6 false (.brw (.lc [7, 8] (.many [7, 8]) (.zp (.idx (.idx (.var 0) (.var 4)) (.int 1)) (.var 5)) (.bl true) (.idx (.idx (.var 3) (.var 7)) (.var 8)) false))) (.seq (.sto 3 (.var 4) (.brw (.add (.idx (.var 3) (.var 4)) (.lst (.cn (.fn 58 (.cn (.var 0) (.cn (.var 4) (.cn (.var 6) .nl)))) .nl))))) .nil)
theorem lp_loop {l : Nat} {h : Hs} {ts : Tin} {x1 x2 x7 x8 : Option R} (ok : HsOk h) : ∀ {ms : List Mv} {rows : List (List Nat)} {a b c : Option R}, RwOk h rows → RunOk h rows ms → LnOk rows ms.length →
    ∃ a' b' c', forL (turn (FL (l + 2)) (.many [4, 5]) lpBody) (ms.map encM) [some (.p (encH h)), x1, x2, some (.o2 (rows.map ns)), a, b, c, x7, x8] ts
      = some (.nx [some (.p (encH h)), x1, x2, some (.o2 ((versV h rows ms).map ns)), a', b', c', x7, x8], ts)
  | [], rows, a, b, c, _, _, _ => ⟨a, b, c, rfl⟩
  | m :: ms, rows, a, b, c, rw_, ro, lo => by
    obtain ⟨mo, ro⟩ := ro
    have hj : m.1 < rows.length := by rw [rw_.ln]; exact mo.pl
    have lr := lo _ (getD_mem (d := []) hj)
    simp only [List.length_cons] at lr
    obtain ⟨f, e⟩ := at_lt mo.pl
    have fo := ok.fd f (List.mem_of_getElem? e)
    have ee := eyes_at e
    obtain ⟨a', b', c', ih⟩ := lp_loop (l := l) (ts := ts) (x1 := x1) (x2 := x2) (x7 := x7) (x8 := x8) ok (ms := ms) (rows := stepV h rows m) (a := some (.p (.int (m.1 : Nat)))) (b := some (.p (tns m.2))) (c := some (.p (.lst (ns (seenV h rows m.1 m.2))))) (stepV_ok ok rw_ mo) ro (lnOk_step hj lo)
    refine ⟨a', b', c', ?_⟩
    have ef : (f.eyes.zip m.2).map (fun p => D.int ((rows.getD p.1 []).getD p.2 0 : Nat)) = ns (seenV h rows m.1 m.2) := by simp [seenV, ee, ns]
    have st : turn (FL (l + 2)) (.many [4, 5]) lpBody [some (.p (encH h)), x1, x2, some (.o2 (rows.map ns)), a, b, c, x7, x8] (encM m) ts
        = some (.nx [some (.p (encH h)), x1, x2, some (.o2 ((stepV h rows m).map ns)), some (.p (.int (m.1 : Nat))), some (.p (tns m.2)), some (.p (.lst (ns (seenV h rows m.1 m.2)))), x7, x8], ts) := by
      refine bturn rfl (bx_seq (bx_asg (r := .o1 (ns (seenV h rows m.1 m.2))) (ts1 := ts) (bs_brw ?_ cl_ns) rfl) (bx_seq (bx_sto (r := .o2 (rows.map ns)) (x := .o1 (ns (rows.getD m.1 []) ++ [.int (valBy h rows m.1 m.2 : Nat)])) (m := (m.1 : Nat)) (ts1 := ts) (ts2 := ts) (bs_brw (bs_add (bs_idx (d := encV (rows.getD m.1 [])) (bs_var rfl) (bs_var rfl) (by rw [fz_o2]; exact row_at hj)) (bs_lst (bs_cn (bs_fn (bs_cn (bs_var rfl) (bs_cn (bs_var rfl) (bs_cn (bs_var rfl) bs_nl))) (f_told ok e (.inr rfl) (seen_vr ok rw_ mo e)) rfl) bs_nl) (show 1 ≤ 1000000 by omega)) ?_) ?_) (bs_var rfl) rfl (by simp) ?_) bx_nil))
      · rw [← ef]
        refine bs_lc (l := f.eyes.zip m.2) (enc := fun p => .tup [.int (p.1 : Nat), .int (p.2 : Nat)]) _ ?_ fun p hp => ?_
        · rw [← zip_nn]
          exact bs_zp (bs_idx (bs_idx (bs_var rfl) (bs_var rfl) (idx_h e)) bs_int fe) (bs_var rfl) rfl rfl
        have hq1 := (List.of_mem_zip (show (p.1, p.2) ∈ _ from hp)).1
        have hb := mo.bd p (by rw [ee]; exact hp)
        exact ⟨_, _, rfl, bs_idx (bs_idx (d := encV (rows.getD p.1 [])) (bs_var rfl) (bs_var rfl) (by rw [fz_o2]; exact row_at (by rw [rw_.ln]; exact fo.eh _ hq1))) (bs_var rfl) (idx_ln (getD_at hb (d := 0))), rfl⟩
      · show addD (.lst (ns _)) (.lst _) = _
        rw [addD, if_pos]
        · rfl
        · show (ns _).length + 1 ≤ 1000000
          rw [ns_len]; omega
      · have : ns (rows.getD m.1 []) ++ [D.int (valBy h rows m.1 m.2 : Nat)] = ns (rows.getD m.1 [] ++ [valBy h rows m.1 m.2]) := by rw [ns_app]; rfl
        rw [this]
        exact cl_ns
      · show (L2.ixN (rows.map ns).length (m.1 : Int)).map _ = _
        rw [List.length_map, ixN_nat hj]
        show some (R.o2 ((rows.map ns).set m.1 (ns (rows.getD m.1 []) ++ [.int (valBy h rows m.1 m.2 : Nat)]))) = _
        rw [set_ns]; rfl
    show forL _ (encM m :: ms.map encM) _ _ = _
    simp only [forL, st]
    exact ih
theorem f_played {l : Nat} {h : Hs} {s : St} {ms : List Mv} {d : D} {ts : Tin} (ok : HsOk h) (so : StOk h s) (ro : RunOk h (firstV h s) ms) (lo : ms.length ≤ 90000) (hd : d = encMs ms ∨ d = .lst (ms.map encM)) : FL (l + 3) 63 [encH h, encS s, d] ts = some (.o2 ((versV h (firstV h s) ms).map ns), ts) := by
  have ed : seqD d = some (ms.map encM) := by rcases hd with rfl | rfl <;> rfl
  obtain ⟨a', b', c', e⟩ := lp_loop (l := l) (ts := ts) (x1 := some (.p (encS s))) (x2 := some (.p d)) (x7 := none) (x8 := none) ok (ms := ms) (rows := firstV h s) (a := none) (b := none) (c := none) (firstV_ok so) ro (firstV_ln so lo)
  exact FL_rt rfl rfl (bx_seq (bx_asg (bs_fn (bs_cn (bs_var rfl) bs_nl) (f_lvers so) cl_o2) rfl) (bx_seq (bx_for (bs_sq (bs_var rfl) ed) e) (bx_rt (bx_retv rfl cl_o2))))
def lnBody : Stm := .seq (.sto 3 (.idx (.var 4) (.int 0)) (.brw (.add (.idx (.var 3) (.idx (.var 4) (.int 0))) (.int 1)))) .nil
theorem ln_loop {F : FT} {ts : Tin} {x0 x1 x2 : Option R} : ∀ {ms : List Mv} {many : List Nat} {a : Option R}, (∀ m ∈ ms, m.1 < many.length) →
    ∃ a', forL (turn F (.one 4) lnBody) (ms.map encM) [x0, x1, x2, some (.o1 (ns many)), a] ts = some (.nx [x0, x1, x2, some (.o1 (ns (cntM many ms))), a'], ts)
  | [], many, a, _ => ⟨a, rfl⟩
  | m :: ms, many, a, h => by
    have hk := h m (by simp)
    obtain ⟨a', ih⟩ := ln_loop (F := F) (ts := ts) (x0 := x0) (x1 := x1) (x2 := x2) (ms := ms) (many := bump many m.1) (a := some (.p (encM m))) (fun q hq => by rw [bump_len]; exact h q (by simp [hq]))
    refine ⟨a', ?_⟩
    have st : turn F (.one 4) lnBody [x0, x1, x2, some (.o1 (ns many)), a] (encM m) ts = some (.nx [x0, x1, x2, some (.o1 (ns (bump many m.1))), some (.p (encM m))], ts) := by
      refine bturn rfl (bx_seq (bx_sto (r := .o1 (ns many)) (x := .p (.int ((many.getD m.1 0 + 1 : Nat) : Int))) (m := (m.1 : Nat)) (bs_brw (bs_add (bs_idx (bs_var rfl) (bs_idx (bs_var rfl) bs_int rfl) (idx_ln (getD_at hk (d := 0)))) bs_int rfl) rfl) (bs_idx (bs_var rfl) bs_int rfl) rfl (by simp) ?_) bx_nil)
      show (L2.ixN (ns many).length (m.1 : Int)).map _ = _
      rw [ns_len, ixN_nat hk]
      show some (R.o1 ((ns many).set m.1 (.int ((many.getD m.1 0 + 1 : Nat) : Int)))) = _
      rw [set_int]; rfl
    show forL _ (encM m :: ms.map encM) _ _ = _
    simp only [forL, st]
    exact ih
theorem f_lcounts {l : Nat} {h : Hs} {s : St} {ms : List Mv} {ts : Tin} (so : StOk h s) (hp : ∀ m ∈ ms, m.1 < h.length) : FL (l + 2) 67 [encH h, encS s, encMs ms] ts = some (.o1 (ns (cntM (lens (firstV h s)) ms)), ts) := by
  obtain ⟨a', e⟩ := ln_loop (F := FL (l + 1)) (ts := ts) (x0 := some (.p (encH h))) (x1 := some (.p (encS s))) (x2 := some (.p (encMs ms))) (ms := ms) (many := lens (firstV h s)) (a := none) (fun m hm => by rw [lens_len, firstV_len]; exact hp m hm)
  have e1 : ns (lens (firstV h s)) = (firstV h s).map fun r => D.int (r.length : Nat) := by simp [ns, lens]
  refine FL_rt rfl rfl (bx_seq (bx_asg (r := .o1 (ns (lens (firstV h s)))) (ts1 := ts) (by rw [e1]; exact bs_lc (l := firstV h s) (enc := encV) (fun r => .int (r.length : Nat)) (bs_sq (bs_fn (bs_cn (bs_var rfl) bs_nl) (f_lvers so) cl_o2) (by rw [fz_o2]; rfl)) fun r hr => ⟨_, _, rfl, bs_bi (bs_cn (bs_var rfl) bs_nl) len_lm, rfl⟩) rfl) (bx_seq (bx_for (bs_sq (bs_var rfl) rfl) e) (bx_rt (bx_retv rfl cl_ns))))
end Lt.Mt

namespace Lt.Mt
open PySem

/-! ### comprehensions that draw -/
def Fa2 {α β : Type} (Q : α → β → Prop) : List α → List β → Prop
  | [], [] => True
  | a :: l, b :: m => Q a b ∧ Fa2 Q l m
  | _, _ => False
theorem Fa2.len {α β : Type} {Q : α → β → Prop} : ∀ {l : List α} {m : List β}, Fa2 Q l m → l.length = m.length
  | [], [], _ => rfl
  | a :: l, b :: m, h => by simp [Fa2.len h.2]
  | [], _ :: _, h => h.elim
  | _ :: _, [], h => h.elim
theorem Fa2.at {α β : Type} {Q : α → β → Prop} : ∀ {l : List α} {m : List β} {i : Nat} {a : α} {b : β}, Fa2 Q l m → l[i]? = some a → m[i]? = some b → Q a b
  | [], [], _, _, _, _, h, _ => by simp at h
  | a :: l, b :: m, 0, _, _, h, h1, h2 => by
    simp only [List.getElem?_cons_zero, Option.some.injEq] at h1 h2
    subst h1; subst h2; exact h.1
  | a :: l, b :: m, i + 1, _, _, h, h1, h2 => Fa2.at h.2 (by simpa using h1) (by simpa using h2)
  | [], _ :: _, _, _, _, h, _, _ => h.elim
  | _ :: _, [], _, _, _, h, _, _ => h.elim
theorem Fa2.mem {α β : Type} {Q : α → β → Prop} {l : List α} {m : List β} {b : β} (h : Fa2 Q l m) (hb : b ∈ m) : ∃ a ∈ l, Q a b := by
  obtain ⟨i, hi, e⟩ := List.mem_iff_getElem.mp hb
  have hi2 : i < l.length := by rw [h.len]; exact hi
  exact ⟨l[i], List.getElem_mem _, h.at (List.getElem?_eq_getElem hi2) (by rw [List.getElem?_eq_getElem hi, e])⟩
section
variable {F : FT} {ρ : Env} {ts ts1 : Tin} {it cd elt : Tm} {own : List Nat} {tg : Tg}
theorem bs_lcD {α β : Type} {enc : α → D} {enc2 : β → D} {l : List α} {k c K : Nat} (Q : α → β → Prop) (hi : evI F it ρ ts = some (l.map enc, ts1)) (ok : OkT k ts1) (hk : k + c * l.length ≤ K)
    (h : ∀ a ∈ l, ∀ k' ts, OkT k' ts → k' + c ≤ K → ∃ ρ1 r b ts', setTg (wipeE ρ own) tg (enc a) = some ρ1 ∧ ev F elt ρ1 ts = some (r, ts') ∧ r.fz = enc2 b ∧ Q a b ∧ OkT (k' + c) ts') :
    ∃ (m : List β) (ts' : Tin), ev F (.lc own tg it (.bl true) elt false) ρ ts = some (.o1 (m.map enc2), ts') ∧ Fa2 Q l m ∧ OkT (k + c * l.length) ts' := by
  have key : ∀ (l' : List α) (k : Nat) (ts1 : Tin), (∀ a ∈ l', a ∈ l) → OkT k ts1 → k + c * l'.length ≤ K → ∃ (rs : List R) (m : List β) (ts' : Tin), compL (lcT F own tg (.bl true) elt ρ) (l'.map enc) ts1 = some (rs, ts') ∧ rs.map R.fz = m.map enc2 ∧ Fa2 Q l' m ∧ OkT (k + c * l'.length) ts' := by
    intro l'
    induction l' with
    | nil => exact fun k ts1 _ ok _ => ⟨[], [], ts1, rfl, rfl, trivial, ok⟩
    | cons v l' ih =>
      intro k ts1 hm ok hk
      simp only [List.length_cons, Nat.mul_add, Nat.mul_one] at hk
      obtain ⟨ρ1, r, b, ts2, e3, e4, e5, q, ok2⟩ := h v (hm v (by simp)) k ts1 ok (by omega)
      obtain ⟨rs, m, ts3, e1, e2, q2, ok3⟩ := ih (k + c) ts2 (fun w hw => hm w (by simp [hw])) ok2 (by omega)
      exact ⟨r :: rs, b :: m, ts3, by simp only [List.map_cons, compL, lcT_one e3 e4, e1], by simp [e2, e5], ⟨q, q2⟩, ok3.mono (by simp only [List.length_cons, Nat.mul_add, Nat.mul_one]; omega)⟩
  obtain ⟨rs, m, ts', e1, e2, q, ok2⟩ := key l k ts1 (fun _ z => z) ok hk
  exact ⟨m, ts', bs_lcR hi e1 (by simp [joinR, e2]), q, ok2⟩
/-- .. some of them, drawn; those of M always -/
theorem bs_lcDf {α : Type} {enc : α → D} {l : List α} {k c K : Nat} (M : α → Prop) (hi : evI F it ρ ts = some (l.map enc, ts1)) (ok : OkT k ts1) (hk : k + c * l.length ≤ K)
    (h : ∀ a ∈ l, ∀ k' ts, OkT k' ts → k' + c ≤ K → ∃ ρ1 b ts', setTg (wipeE ρ own) tg (enc a) = some ρ1 ∧ ev F cd ρ1 ts = some (.p (.bl b), ts') ∧ (M a → b = true) ∧ (∀ ts, ∃ r, ev F elt ρ1 ts = some (r, ts) ∧ r.fz = enc a) ∧ OkT (k' + c) ts') :
    ∃ (m : List α) (ts' : Tin), ev F (.lc own tg it cd elt false) ρ ts = some (.o1 (m.map enc), ts') ∧ m.Sublist l ∧ (∀ a ∈ l, M a → a ∈ m) ∧ OkT (k + c * l.length) ts' := by
  have key : ∀ (l' : List α) (k : Nat) (ts1 : Tin), (∀ a ∈ l', a ∈ l) → OkT k ts1 → k + c * l'.length ≤ K → ∃ (rs : List R) (m : List α) (ts' : Tin), compL (lcT F own tg cd elt ρ) (l'.map enc) ts1 = some (rs, ts') ∧ rs.map R.fz = m.map enc ∧ m.Sublist l' ∧ (∀ a ∈ l', M a → a ∈ m) ∧ OkT (k + c * l'.length) ts' := by
    intro l'
    induction l' with
    | nil => exact fun k ts1 _ ok _ => ⟨[], [], ts1, rfl, rfl, List.Sublist.refl _, by simp, ok⟩
    | cons v l' ih =>
      intro k ts1 hm ok hk
      simp only [List.length_cons, Nat.mul_add, Nat.mul_one] at hk
      obtain ⟨ρ1, b, ts2, e3, e4, hb, e5, ok2⟩ := h v (hm v (by simp)) k ts1 ok (by omega)
      obtain ⟨rs, m, ts3, e1, e2, q2, q3, ok3⟩ := ih (k + c) ts2 (fun w hw => hm w (by simp [hw])) ok2 (by omega)
      have okk : OkT (k + c * (v :: l').length) ts3 := ok3.mono (by simp only [List.length_cons, Nat.mul_add, Nat.mul_one]; omega)
      cases b with
      | true =>
        obtain ⟨r, e6, e7⟩ := e5 ts2
        refine ⟨r :: rs, v :: m, ts3, by simp only [List.map_cons, compL, lcT_yes e3 e4 e6, e1], by simp [e2, e7], q2.cons_cons v, ?_, okk⟩
        intro a ha hM
        rcases List.mem_cons.mp ha with rfl | ha
        · simp
        · simp [q3 a ha hM]
      | false =>
        refine ⟨rs, m, ts3, by simp only [List.map_cons, compL, lcT_no e3 e4, e1], e2, q2.cons v, ?_, okk⟩
        intro a ha hM
        rcases List.mem_cons.mp ha with rfl | ha
        · exact absurd (hb hM) (by simp)
        · exact q3 a ha hM
  obtain ⟨rs, m, ts', e1, e2, q, q3, ok2⟩ := key l k ts1 (fun _ z => z) ok hk
  exact ⟨m, ts', bs_lcR hi e1 (by simp [joinR, e2]), q, q3, ok2⟩
end

/-! ### drawn states, starts -/
theorem f_spot {l k : Nat} {h : Hs} {ts : Tin} (ok : HsOk h) (ot : OkT k ts) (hk : k ≤ 10000000) : ∃ (st : List Nat) (ts' : Tin), FL (l + 2) 60 [.tin, encH h] ts = some (.p (tns st), ts') ∧ st.length = h.length ∧ (∀ j, j < h.length → st.getD j 0 < szs h j) ∧ OkT (k + 100) ts' := by
  have l8 := ok.l8
  obtain ⟨m, ts', e, q, ot2⟩ := bs_lcD (F := FL (l + 1)) (ρ := [some (.p .tin), some (.p (encH h)), none]) (ts := ts) (ts1 := ts) (it := .sq (.var 1)) (own := [2]) (tg := .one 2) (elt := .fn 51 (.cn (.var 0) (.cn (.bi .len (.cn (.idx (.var 2) (.int 0)) .nl)) .nl))) (l := h) (enc := encF) (enc2 := fun (n : Nat) => .int (n : Int)) (k := k) (c := 1) (K := 100000000) (fun f v => v < f.vals.length) (bs_sq (bs_var rfl) rfl) ot (by omega) (by
    intro f hf k' ts ot hk
    have fo := ok.fd f hf
    obtain ⟨v, ts', e, hv, ot2⟩ := f_take (l := l) (n := f.vals.length) (List.length_pos_iff.mpr fo.v0) (by have := fo.v5; omega) ot (by omega)
    exact ⟨_, _, v, ts', rfl, bs_fn (bs_cn (bs_var rfl) (bs_cn (bs_bi (bs_cn (bs_idx (bs_var rfl) bs_int fv) bs_nl) len_tm) bs_nl)) e rfl, rfl, hv, ot2⟩)
  refine ⟨m, ts', FL_rt rfl rfl (bx_rt (bx_ret (bs_bi (r := .p (tns m)) (bs_cn e bs_nl) rfl) cl_tns)), q.len.symm, ?_, ot2.mono (by omega)⟩
  intro j hj
  obtain ⟨f, e1⟩ := at_lt hj
  have e2 : m[j]? = some (m.getD j 0) := getD_at (by rw [← q.len]; exact hj)
  rw [szs_f e1]
  exact q.at e1 e2
theorem sub_range {n : Nat} {m : List Nat} (s : m.Sublist (List.range n)) : m.Pairwise (· < ·) ∧ (∀ v ∈ m, v < n) ∧ m.length ≤ n :=
  ⟨(List.pairwise_lt_range).sublist s, fun v hv => List.mem_range.mp (s.subset hv), by have := s.length_le; rwa [List.length_range] at this⟩
def slBody : Stm := .seq (.asg 6 false (.lc [7] (.one 7) (.rng (.bi .len (.cn (.idx (.idx (.var 1) (.var 4)) (.int 0)) .nl))) (.or_ (.cmp .eq (.var 7) (.var 5)) (.cmp .eq (.fn 51 (.cn (.var 0) (.cn (.int 4) .nl))) (.int 0))) (.var 7) false)) (.seq (.app 3 (.bi .tuple (.cn (.var 6) .nl))) .nil)
/-- what is old of a field -/
def OldOk (h : Hs) (j v : Nat) (o : List Nat) : Prop := v ∈ o ∧ o.Pairwise (· < ·) ∧ (∀ w ∈ o, w < szs h j) ∧ o.length ≤ 8
theorem sl_loop {l : Nat} {h : Hs} {x2 x7 : Option R} (ok : HsOk h) : ∀ {ps : List (Nat × Nat)} {k : Nat} {ts : Tin} {fd : List (List Nat)} {a b c : Option R}, (∀ p ∈ ps, p.2 < h.length ∧ p.1 < szs h p.2) → OkT k ts → k + 5 * ps.length ≤ 20000000 → fd.length + ps.length ≤ 1000 →
    ∃ a' b' c' m ts', forL (turn (FL (l + 1)) (.many [4, 5]) slBody) (ps.map fun p => .tup [.int (p.2 : Nat), .int (p.1 : Nat)]) [some (.p .tin), some (.p (encH h)), x2, some (.o1 (fd.map tns)), a, b, c, x7] ts
      = some (.nx [some (.p .tin), some (.p (encH h)), x2, some (.o1 ((fd ++ m).map tns)), a', b', c', x7], ts') ∧ Fa2 (fun p o => OldOk h p.2 p.1 o) ps m ∧ OkT (k + 5 * ps.length) ts'
  | [], k, ts, fd, a, b, c, _, ot, _, _ => ⟨a, b, c, [], ts, by rw [List.append_nil]; rfl, trivial, ot⟩
  | p :: ps, k, ts, fd, a, b, c, hp, ot, hk, hl => by
    simp only [List.length_cons] at hk hl
    obtain ⟨hj, hv⟩ := hp p (by simp)
    obtain ⟨f, e⟩ := at_lt hj
    have fo := ok.fd f (List.mem_of_getElem? e)
    have v5 := fo.v5
    obtain ⟨o, ts1, e1, sub, mem, ot1⟩ := bs_lcDf (F := FL (l + 1)) (ρ := [some (.p .tin), some (.p (encH h)), x2, some (.o1 (fd.map tns)), some (.p (.int (p.2 : Nat))), some (.p (.int (p.1 : Nat))), c, x7]) (ts := ts) (ts1 := ts) (it := .rng (.bi .len (.cn (.idx (.idx (.var 1) (.var 4)) (.int 0)) .nl))) (own := [7]) (tg := .one 7) (cd := .or_ (.cmp .eq (.var 7) (.var 5)) (.cmp .eq (.fn 51 (.cn (.var 0) (.cn (.int 4) .nl))) (.int 0))) (elt := .var 7) (enc := fun (n : Nat) => .int (n : Int)) (l := List.range f.vals.length) (k := k) (c := 1) (K := 100000000) (fun n => n = p.1)
      (bs_rng (bs_bi (bs_cn (bs_idx (bs_idx (bs_var rfl) (bs_var rfl) (idx_h e)) bs_int fv) bs_nl) len_tm) (rngD_nat (by omega))) ot (by simp; omega) (by
        intro n hn k' ts ot hk
        by_cases hnp : n = p.1
        · exact ⟨_, true, ts, rfl, bs_orT (bs_cmp (bs_var rfl) (bs_var rfl) (by show cmpD .eq (.int (n : Nat)) (.int (p.1 : Nat)) = _; rw [eq_int]; simp [hnp])), fun _ => rfl, fun ts => ⟨_, bs_var rfl, rfl⟩, ot.mono (by omega)⟩
        · obtain ⟨v, ts', e, hv, ot2⟩ := f_take (l := l) (n := 4) (by omega) (by omega) ot (by omega)
          exact ⟨_, decide (v = 0), ts', rfl, bs_orF (bs_cmp (bs_var rfl) (bs_var rfl) (by show cmpD .eq (.int (n : Nat)) (.int (p.1 : Nat)) = _; rw [eq_int]; simp [hnp])) (bs_cmp (bs_fn (bs_cn (bs_var rfl) (bs_cn bs_int bs_nl)) e rfl) bs_int (by show cmpD .eq (.int (v : Nat)) (.int ((0 : Nat) : Int)) = _; rw [eq_int])), fun z => absurd z hnp, fun ts => ⟨_, bs_var rfl, rfl⟩, ot2⟩)
    have sr := sub_range sub
    rw [List.length_range] at ot1
    obtain ⟨a', b', c', m, ts2, ih, q, ot2⟩ := sl_loop (l := l) (x2 := x2) (x7 := x7) ok (ps := ps) (k := k + 5) (ts := ts1) (fd := fd ++ [o]) (a := some (.p (.int (p.2 : Nat)))) (b := some (.p (.int (p.1 : Nat)))) (c := some (.p (.lst (ns o)))) (fun z hz => hp z (by simp [hz])) (ot1.mono (by omega)) (by omega) (by simp; omega)
    refine ⟨a', b', c', o :: m, ts2, ?_, ⟨⟨mem p.1 (List.mem_range.mpr (by rw [← szs_f e]; exact hv)) rfl, sr.1, by rw [szs_f e]; exact sr.2.1, by omega⟩, q⟩, ot2.mono (by simp only [List.length_cons]; omega)⟩
    have st : turn (FL (l + 1)) (.many [4, 5]) slBody [some (.p .tin), some (.p (encH h)), x2, some (.o1 (fd.map tns)), a, b, c, x7] (.tup [.int (p.2 : Nat), .int (p.1 : Nat)]) ts
        = some (.nx [some (.p .tin), some (.p (encH h)), x2, some (.o1 ((fd ++ [o]).map tns)), some (.p (.int (p.2 : Nat))), some (.p (.int (p.1 : Nat))), some (.p (.lst (ns o))), x7], ts1) := by
      have e2 : (fd ++ [o]).map tns = fd.map tns ++ [tns o] := by simp
      rw [e2]
      exact bturn rfl (bx_seq (bx_asg e1 rfl) (bx_seq (bx_app (x := .p (tns o)) (bs_bi (bs_cn (bs_var rfl) bs_nl) rfl) rfl (by rw [List.length_map]; show _ < 1000000; omega)) bx_nil))
    show forL _ (D.tup [.int (p.2 : Nat), .int (p.1 : Nat)] :: ps.map _) _ _ = _
    simp only [forL, st]
    rw [show fd ++ o :: m = fd ++ [o] ++ m by simp]
    exact ih
theorem f_start {l k : Nat} {h : Hs} {ts : Tin} (ok : HsOk h) (ot : OkT k ts) (hk : k ≤ 9000000) : ∃ (s : St) (ts' : Tin), FL (l + 3) 61 [.tin, encH h] ts = some (.p (encS s), ts') ∧ StOk h s ∧ OkT (k + 200) ts' := by
  have l8 := ok.l8
  obtain ⟨st, ts1, e1, sl, lt, ot1⟩ := f_spot (l := l) ok ot (by omega)
  have hz : st.zipIdx.length = h.length := by simp [sl]
  obtain ⟨a', b', c', m, ts2, e2, q, ot2⟩ := sl_loop (l := l + 1) (x2 := some (.p (tns st))) (x7 := none) ok (ps := st.zipIdx) (k := k + 100) (ts := ts1) (fd := []) (a := none) (b := none) (c := none) (by
    intro p hp
    have e := List.mem_zipIdx_iff_getElem?.mp hp
    have h1 := (List.getElem?_eq_some_iff.mp e).1
    rw [sl] at h1
    have := lt p.2 h1
    rw [List.getD_eq_getElem?_getD, e] at this
    exact ⟨h1, this⟩) ot1 (by rw [hz]; omega) (by rw [hz]; simp; omega)
  rw [List.nil_append] at e2
  have ml : m.length = h.length := by rw [← q.len, hz]
  have key : ∀ j, j < h.length → OldOk h j (st.getD j 0) (m.getD j []) := by
    intro j hj
    have e3 : st.zipIdx[j]? = some (st.getD j 0, j) := by
      rw [List.getElem?_zipIdx, getD_at (l := st) (i := j) (d := 0) (by rw [sl]; exact hj)]; simp
    have e4 : m[j]? = some (m.getD j []) := getD_at (by rw [ml]; exact hj)
    exact q.at e3 e4
  have mem_key : ∀ o ∈ m, ∃ j v, OldOk h j v o := fun o ho => by
    obtain ⟨p, _, hp⟩ := q.mem ho
    exact ⟨p.2, p.1, hp⟩
  refine ⟨⟨st, m⟩, ts2, FL_rt rfl rfl (bx_seq (bx_par (bs_fn (bs_cn (bs_var rfl) (bs_cn (bs_var rfl) bs_nl)) e1 cl_tns) (bs_lst bs_nl (by decide)) rfl rfl) (bx_seq (bx_for (enm_l (enc := fun (n : Nat) => .int (n : Int)) (bs_var rfl) rfl) e2) (bx_rt (bx_ret (bs_brw (bs_tup (ds := [tns st, .tup (m.map tns)]) (bs_cn (bs_var rfl) (bs_cn (bs_bi (r := .p (.tup (m.map tns))) (bs_cn (bs_var rfl) bs_nl) rfl) bs_nl)) (show 2 ≤ 1000000 by omega)) (cl_s (s := ⟨st, m⟩))) (cl_s (s := ⟨st, m⟩)))))), ⟨sl, ml, fun j hj => (key j hj).1, fun o ho => ?_, fun o ho => ?_, fun j hj => (key j hj).2.2.1⟩, ot2.mono (by rw [hz]; omega)⟩
  · obtain ⟨_, _, z⟩ := mem_key o ho; exact z.2.1
  · obtain ⟨_, _, z⟩ := mem_key o ho; exact z.2.2.2

/-! ### drawn runs -/
theorem runOk_app {h : Hs} {m : Mv} : ∀ {ms : List Mv} {rows : List (List Nat)}, RunOk h rows ms → MvOk h (versV h rows ms) m → RunOk h rows (ms ++ [m])
  | [], _, _, mo => ⟨mo, trivial⟩
  | a :: ms, rows, ro, mo => ⟨ro.1, runOk_app ro.2 mo⟩
theorem versV_ok {h : Hs} (ok : HsOk h) : ∀ {ms : List Mv} {rows : List (List Nat)}, RwOk h rows → RunOk h rows ms → RwOk h (versV h rows ms)
  | [], _, r, _ => r
  | m :: ms, _, r, ro => versV_ok ok (ms := ms) (stepV_ok ok r ro.1) ro.2
theorem versV_ne {h : Hs} {j : Nat} : ∀ {ms : List Mv} {rows : List (List Nat)}, (∀ m ∈ ms, m.1 < rows.length) → rows.getD j [] ≠ [] → (versV h rows ms).getD j [] ≠ []
  | [], _, _, e => e
  | m :: ms, rows, hm, e => versV_ne (ms := ms) (rows := stepV h rows m) (fun q hq => by rw [stepV, List.length_set]; exact hm q (by simp [hq])) (step_ne (hm m (by simp)) e)
theorem firstV_ne {h : Hs} {s : St} {j : Nat} (hj : j < h.length) : (firstV h s).getD j [] ≠ [] := by rw [firstV_at hj]; simp
def lmBody : Stm := .seq (.asg 6 false (.brw (.fn 63 (.cn (.var 1) (.cn (.var 2) (.cn (.var 4) .nl)))))) (.seq (.asg 7 false (.fn 51 (.cn (.var 0) (.cn (.bi .len (.cn (.var 1) .nl)) .nl)))) (.seq (.app 4 (.tup (.cn (.var 7) (.cn (.bi .tuple (.cn (.lc [8] (.one 8) (.sq (.idx (.idx (.var 1) (.var 7)) (.int 1))) (.bl true) (.fn 51 (.cn (.var 0) (.cn (.bi .len (.cn (.idx (.var 6) (.var 8)) .nl)) .nl))) false) .nl)) .nl)))) .nil))
theorem versV_lenrow {h : Hs} : ∀ {ms : List Mv} {rows : List (List Nat)} {n j : Nat}, LnOk rows (ms.length + n) → (∀ m ∈ ms, m.1 < rows.length) → ((versV h rows ms).getD j []).length ≤ 100000
  | [], rows, n, j, lo, _ => by
    show (rows.getD j []).length ≤ _
    by_cases hj : j < rows.length
    · have := lo _ (getD_mem (d := []) hj); omega
    · rw [List.getD_eq_getElem?_getD, List.getElem?_eq_none (by omega)]; simp
  | m :: ms, rows, n, j, lo, hm => versV_lenrow (ms := ms) (rows := stepV h rows m) (n := n) (lnOk_step (hm m (by simp)) (by
      simp only [List.length_cons] at lo
      rwa [show ms.length + n + 1 = ms.length + 1 + n by omega])) (fun q hq => by rw [stepV, List.length_set]; exact hm q (by simp [hq]))
theorem lm_loop {l : Nat} {h : Hs} {s : St} {x3 x8 : Option R} (ok : HsOk h) (so : StOk h s) (h0 : 0 < h.length) : ∀ {q : List D} {k : Nat} {ts : Tin} {fd : List Mv} {a b c : Option R}, RunOk h (firstV h s) fd → OkT k ts → k + 10 * q.length ≤ 20000000 → fd.length + q.length ≤ 1000 →
    ∃ a' b' c' ms ts', forL (turn (FL (l + 3)) (.one 5) lmBody) q [some (.p .tin), some (.p (encH h)), some (.p (encS s)), x3, some (.o1 (fd.map encM)), a, b, c, x8] ts
      = some (.nx [some (.p .tin), some (.p (encH h)), some (.p (encS s)), x3, some (.o1 (ms.map encM)), a', b', c', x8], ts') ∧ RunOk h (firstV h s) ms ∧ ms.length = fd.length + q.length ∧ OkT (k + 10 * q.length) ts'
  | [], k, ts, fd, a, b, c, ro, ot, _, _ => ⟨a, b, c, fd, ts, rfl, ro, rfl, ot⟩
  | d :: q, k, ts, fd, a, b, c, ro, ot, hk, hl => by
    simp only [List.length_cons] at hk hl
    have l8 := ok.l8
    have e1 := f_played (l := l) (ts := ts) (d := .lst (fd.map encM)) ok so ro (by omega) (.inr rfl)
    obtain ⟨j, ts1, e2, hj, ot1⟩ := f_take (l := l + 2) (n := h.length) h0 (by omega) ot (by omega)
    obtain ⟨f, e⟩ := at_lt hj
    have fo := ok.fd f (List.mem_of_getElem? e)
    have ee := eyes_at e
    have vl : (versV h (firstV h s) fd).length = h.length := by rw [versV_len, firstV_len]
    have fp : ∀ m ∈ fd, m.1 < (firstV h s).length := fun m hm => by rw [firstV_len]; exact run_pl ro m hm
    obtain ⟨xs, ts2, e3, fa, ot2⟩ := bs_lcD (F := FL (l + 3)) (ρ := [some (.p .tin), some (.p (encH h)), some (.p (encS s)), x3, some (.o1 (fd.map encM)), some (.p d), some (.p (encVs (versV h (firstV h s) fd))), some (.p (.int (j : Nat))), x8]) (ts := ts1) (ts1 := ts1) (it := .sq (.idx (.idx (.var 1) (.var 7)) (.int 1))) (own := [8]) (tg := .one 8) (elt := .fn 51 (.cn (.var 0) (.cn (.bi .len (.cn (.idx (.var 6) (.var 8)) .nl)) .nl))) (l := f.eyes) (enc := fun (n : Nat) => .int (n : Int)) (enc2 := fun (n : Nat) => .int (n : Int)) (k := k + 1) (c := 1) (K := 100000000) (fun q v => v < ((versV h (firstV h s) fd).getD q []).length) (bs_sq (bs_idx (bs_idx (bs_var rfl) (bs_var rfl) (idx_h e)) bs_int fe) rfl) ot1 (by have := fo.el; omega) (by
      intro q hq k' ts ot hk
      have hq2 := fo.eh q hq
      obtain ⟨v, ts', e, hv, ot2⟩ := f_take (l := l + 2) (n := ((versV h (firstV h s) fd).getD q []).length) (List.length_pos_iff.mpr (versV_ne fp (firstV_ne hq2))) (versV_lenrow (n := 0) (by rw [Nat.add_zero]; exact firstV_ln so (by omega)) fp) ot (by omega)
      exact ⟨_, _, v, ts', rfl, bs_fn (bs_cn (bs_var rfl) (bs_cn (bs_bi (bs_cn (bs_idx (d := encV ((versV h (firstV h s) fd).getD q [])) (bs_var rfl) (bs_var rfl) (row_at (by rw [vl]; exact hq2))) bs_nl) len_lm) bs_nl)) e rfl, rfl, hv, ot2⟩)
    have mo : MvOk h (versV h (firstV h s) fd) (j, xs) := by
      refine ⟨hj, by rw [ee]; exact fa.len.symm, fun p hp => ?_⟩
      rw [ee] at hp
      replace hp : p ∈ f.eyes.zip xs := hp
      obtain ⟨i, hi, e4⟩ := List.mem_iff_getElem.mp hp
      have hi2 : i < f.eyes.length ∧ i < xs.length := by rw [List.length_zip] at hi; omega
      rw [List.getElem_zip] at e4
      have := fa.at (List.getElem?_eq_getElem hi2.1) (List.getElem?_eq_getElem hi2.2)
      rw [← e4]; exact this
    have fe8 := fo.el
    obtain ⟨a', b', c', ms, ts3, ih, ro3, ln3, ot3⟩ := lm_loop (l := l) (x3 := x3) (x8 := x8) ok so h0 (q := q) (k := k + 10) (ts := ts2) (fd := fd ++ [(j, xs)]) (a := some (.p d)) (b := some (.p (encVs (versV h (firstV h s) fd)))) (c := some (.p (.int (j : Nat)))) (runOk_app ro mo) (ot2.mono (by omega)) (by omega) (by simp; omega)
    refine ⟨a', b', c', ms, ts3, ?_, ro3, by rw [ln3]; simp; omega, ot3.mono (by simp only [List.length_cons]; omega)⟩
    have st : turn (FL (l + 3)) (.one 5) lmBody [some (.p .tin), some (.p (encH h)), some (.p (encS s)), x3, some (.o1 (fd.map encM)), a, b, c, x8] d ts
        = some (.nx [some (.p .tin), some (.p (encH h)), some (.p (encS s)), x3, some (.o1 ((fd ++ [(j, xs)]).map encM)), some (.p d), some (.p (encVs (versV h (firstV h s) fd))), some (.p (.int (j : Nat))), x8], ts2) := by
      have e5 : (fd ++ [(j, xs)]).map encM = fd.map encM ++ [.tup [.int (j : Nat), tns xs]] := by rw [List.map_append]; rfl
      rw [e5]
      exact bturn rfl (bx_seq (bx_asg (r' := .p (encVs (versV h (firstV h s) fd))) (bs_brw (bs_fn (bs_cn (bs_var rfl) (bs_cn (bs_var rfl) (bs_cn (bs_var rfl) bs_nl))) e1 cl_o2) cl_o2) (by show some (R.p (R.fz _)) = _; rw [fz_o2])) (bx_seq (bx_asg (bs_fn (bs_cn (bs_var rfl) (bs_cn (bs_bi (bs_cn (bs_var rfl) bs_nl) len_h) bs_nl)) e2 rfl) rfl) (bx_seq (bx_app (x := .p (.tup [.int (j : Nat), tns xs])) (bs_tup (bs_cn (bs_var rfl) (bs_cn (bs_bi (r := .p (tns xs)) (bs_cn e3 bs_nl) rfl) bs_nl)) (show 2 ≤ 1000000 by omega)) rfl (by rw [List.length_map]; show _ < 1000000; omega)) bx_nil)))
    show forL _ (d :: q) _ _ = _
    simp only [forL, st]
    exact ih
end Lt.Mt

namespace Lt.Mt
open PySem

/-! ### drawn runs -/
theorem lay_all {k : Nat} : ∀ {xs : List D}, (∀ x ∈ xs, x.pd.canLay0 = true ∧ x.pd.depth ≤ k) → PyData.canLayAll0 (D.pds xs) = true ∧ PyData.depthAll (D.pds xs) ≤ k
  | [], _ => by simp [D.pds, PyData.canLayAll0, PyData.depthAll]
  | x :: xs, h => by
    obtain ⟨h1, h2⟩ := h x (by simp)
    obtain ⟨h3, h4⟩ := lay_all (xs := xs) fun y hy => h y (List.mem_cons_of_mem x hy)
    simp only [D.pds, PyData.canLayAll0, PyData.depthAll, h1, h3, Bool.and_self, true_and]
    omega
theorem lay_tup {k : Nat} {xs : List D} (h : ∀ x ∈ xs, x.pd.canLay0 = true ∧ x.pd.depth ≤ k) : (D.tup xs).pd.canLay0 = true ∧ (D.tup xs).pd.depth ≤ k + 1 := by
  obtain ⟨h1, h2⟩ := lay_all h
  simp only [D.pd, PyData.canLay0, PyData.depth]
  exact ⟨h1, by omega⟩
def StrsOk (h : Hs) : Prop := ∀ f ∈ h, ∀ v ∈ f.vals, PyData.strOk v = true
theorem lay_n {l : List Nat} : (tns l).pd.canLay0 = true ∧ (tns l).pd.depth ≤ 1 := lay_tup fun x hx => by
  obtain ⟨n, _, rfl⟩ := List.mem_map.mp hx
  simp [D.pd, PyData.canLay0, PyData.depth]
theorem lay_h {h : Hs} (so : StrsOk h) : (encH h).ok = true := by
  have : (encH h).pd.canLay0 = true ∧ (encH h).pd.depth ≤ 2 + 1 := lay_tup fun x hx => by
    obtain ⟨f, hf, rfl⟩ := List.mem_map.mp hx
    refine lay_tup (k := 1) fun x hx => ?_
    simp only [List.mem_cons, List.not_mem_nil, or_false] at hx
    rcases hx with rfl | rfl | rfl
    · refine lay_tup (k := 0) fun x hx => ?_
      obtain ⟨v, hv, rfl⟩ := List.mem_map.mp hx
      simp [D.pd, PyData.canLay0, PyData.depth, so f hf v hv]
    · exact lay_n
    · exact lay_n
  simp only [D.ok, SeqAt.shaped, this.1, Bool.true_and, decide_eq_true_eq]
  omega
theorem ne_nil {h : Hs} (so : StrsOk h) (h0 : h ≠ []) : cmpD .ne (encH h) (.tup []) = some true := by
  have e : eqD (encH h) (.tup []) = some false := by
    obtain ⟨f, r, rfl⟩ := List.exists_cons_of_ne_nil h0
    have e1 : eqD (encH (f :: r)) (.tup []) = if (encH (f :: r)).ok && (D.tup []).ok then some (deq (encH (f :: r)) (.tup [])) else none := rfl
    rw [e1, lay_h so]
    rfl
  simp only [cmpD, e]
  rfl
theorem f_moves {l k n : Nat} {h : Hs} {s : St} {ts : Tin} (ok : HsOk h) (so : StOk h s) (ss : StrsOk h) (h0 : h ≠ []) (hn : n ≤ 900) (ot : OkT k ts) (hk : k ≤ 1000000) : ∃ (ms : List Mv) (ts' : Tin), FL (l + 4) 64 [.tin, encH h, encS s, .int (n : Nat)] ts = some (.p (encMs ms), ts') ∧ RunOk h (firstV h s) ms ∧ ms.length = n ∧ OkT (k + 10 * n) ts' := by
  obtain ⟨a', b', c', ms, ts', e, ro, ln, ot2⟩ := lm_loop (l := l) (x3 := some (.p (.int (n : Nat)))) (x8 := none) ok so (List.length_pos_iff.mpr h0) (q := ns (List.range n)) (k := k) (ts := ts) (fd := []) (a := none) (b := none) (c := none) trivial ot (by simp; omega) (by simp; omega)
  refine ⟨ms, ts', FL_rt rfl rfl (bx_seq (bx_asg (bs_lst bs_nl (by decide)) rfl) (bx_seq (bx_for (bs_rng (bs_ite (k := true) (r := .p (.int (n : Nat))) (r' := .p .non) (bs_cmp (bs_var rfl) (bs_tup bs_nl (by decide)) (ne_nil ss h0)) (fun _ => bs_var rfl) (fun z => by cases z)) (rngD_nat (by omega))) e) (bx_rt (bx_ret (bs_brw (bs_bi (r := .p (encMs ms)) (bs_cn (bs_var rfl) bs_nl) rfl) cl_ms) cl_ms)))), ro, by rw [ln]; simp, ot2.mono (by simp)⟩

/-! ### sorting -/
def insN (i : Nat) : List Nat → List Nat
  | [] => [i]
  | j :: r => if i ≤ j then i :: j :: r else j :: insN i r
def sortN : List Nat → List Nat
  | [] => []
  | i :: r => insN i (sortN r)
theorem insI_n {i : Nat} : ∀ {l : List Nat}, insI (i : Nat) (nIs l) = nIs (insN i l)
  | [] => rfl
  | j :: r => by
    have e : insI (i : Nat) (nIs (j :: r)) = if ((i : Nat) : Int) ≤ (j : Nat) then ((i : Nat) : Int) :: ((j : Nat) : Int) :: nIs r else ((j : Nat) : Int) :: insI (i : Nat) (nIs r) := rfl
    rw [e, insI_n, insN]
    by_cases h : i ≤ j
    · rw [if_pos (by omega), if_pos h]; rfl
    · rw [if_neg (by omega), if_neg h]; rfl
theorem sortI_n : ∀ {l : List Nat}, sortI (nIs l) = nIs (sortN l)
  | [] => rfl
  | i :: r => by
    have e : sortI (nIs (i :: r)) = insI (i : Nat) (sortI (nIs r)) := rfl
    rw [e, sortI_n, insI_n]; rfl
theorem insN_perm {i : Nat} : ∀ {l : List Nat}, (insN i l).Perm (i :: l)
  | [] => List.Perm.refl _
  | j :: r => by
    rw [insN]
    split
    · exact List.Perm.refl _
    · exact (insN_perm.cons j).trans (List.Perm.swap i j r)
theorem sortN_perm : ∀ {l : List Nat}, (sortN l).Perm l
  | [] => List.Perm.refl _
  | i :: r => insN_perm.trans (sortN_perm.cons i)
theorem insN_le {i : Nat} : ∀ {l : List Nat}, l.Pairwise (· ≤ ·) → (insN i l).Pairwise (· ≤ ·)
  | [], _ => by simp [insN]
  | j :: r, h => by
    rw [insN]
    have hj := List.pairwise_cons.mp h
    split
    · rename_i hij
      refine List.pairwise_cons.mpr ⟨fun x hx => ?_, h⟩
      rcases List.mem_cons.mp hx with rfl | hx
      · exact hij
      · exact Nat.le_trans hij (hj.1 x hx)
    · refine List.pairwise_cons.mpr ⟨fun x hx => ?_, insN_le hj.2⟩
      rcases List.mem_cons.mp (insN_perm.mem_iff.mp hx) with rfl | hx
      · omega
      · exact hj.1 x hx
theorem sortN_le : ∀ {l : List Nat}, (sortN l).Pairwise (· ≤ ·)
  | [] => List.Pairwise.nil
  | i :: r => insN_le sortN_le
theorem sortN_lt {l : List Nat} (nd : l.Nodup) : (sortN l).Pairwise (· < ·) := by
  have h1 := sortN_le (l := l)
  have h2 : (sortN l).Nodup := sortN_perm.nodup_iff.mpr nd
  refine (h1.and h2).imp ?_
  rintro a b ⟨h3, h4⟩
  have : a ≠ b := h4
  omega
theorem srt_n {l : List Nat} (h : l.length < 64) : srtD [.lst (ns l)] = some (.o1 (ns (sortN l))) := by
  show (match asInts (ns l) with
    | some is => if is.length < 64 then some (R.o1 ((sortI is).map .int)) else none
    | none => none) = _
  rw [asInts_ns2]
  simp only
  rw [if_pos (by simp [nIs]; exact h), sortI_n]
  simp [nIs, ns]
end Lt.Mt

namespace Lt.Mt
open PySem

/-! ### drawn houses -/
def nms : List Str := ["no", "yes", "zeal"]
structure FldOk (sz : List Nat) (j : Nat) (f : Fd) : Prop where
  v : f.vals = nms.take (sz.getD j 0)
  er : f.eyes.Pairwise (· < ·)
  eh : ∀ e ∈ f.eyes, e < sz.length
  el : f.eyes.length ≤ 2
  tl : f.tab.length = prodL (f.eyes.map fun e => sz.getD e 0)
  tv : ∀ t ∈ f.tab, t < sz.getD j 0
theorem hz_in {F : FT} {ts : Tin} {sz : List Nat} {x0 x1 x2 x3 x5 x6 x9 x10 : Option R} (h3 : ∀ s ∈ sz, s ≤ 3) : ∀ {es : List Nat} {s : Nat} {a : Option R}, (∀ e ∈ es, e < sz.length) →
    ∃ a', forL (turn F (.one 8) (.seq (.asg 7 false (.mul (.var 7) (.idx (.var 4) (.var 8)))) .nil)) (ns es) [x0, x1, x2, x3, some (.p (.lst (ns sz))), x5, x6, some (.p (.int (s : Nat))), a, x9, x10] ts
      = some (.nx [x0, x1, x2, x3, some (.p (.lst (ns sz))), x5, x6, some (.p (.int ((es.map fun e => sz.getD e 0).foldl (· * ·) s : Nat))), a', x9, x10], ts)
  | [], s, a, _ => ⟨a, rfl⟩
  | e :: es, s, a, h => by
    have he := h e (by simp)
    obtain ⟨a', ih⟩ := hz_in (F := F) (ts := ts) (x0 := x0) (x1 := x1) (x2 := x2) (x3 := x3) (x5 := x5) (x6 := x6) (x9 := x9) (x10 := x10) h3 (es := es) (s := s * sz.getD e 0) (a := some (.p (.int (e : Nat)))) (fun q hq => h q (by simp [hq]))
    refine ⟨a', ?_⟩
    have hm := h3 _ (getD_mem (d := 0) he)
    have st : turn F (.one 8) (.seq (.asg 7 false (.mul (.var 7) (.idx (.var 4) (.var 8)))) .nil) [x0, x1, x2, x3, some (.p (.lst (ns sz))), x5, x6, some (.p (.int (s : Nat))), a, x9, x10] (.int (e : Nat)) ts
        = some (.nx [x0, x1, x2, x3, some (.p (.lst (ns sz))), x5, x6, some (.p (.int ((s * sz.getD e 0 : Nat) : Int))), some (.p (.int (e : Nat))), x9, x10], ts) :=
      bturn rfl (bx_seq (bx_asg (bs_mul (bs_var rfl) (bs_idx (bs_var rfl) (bs_var rfl) (idx_ln (getD_at he (d := 0)))) (mul_n (by omega))) rfl) bx_nil)
    show forL _ (D.int (e : Int) :: ns es) _ _ = _
    simp only [forL, st]
    exact ih
def hlBody : Stm := .seq (.asg 6 false (.bi .tuple (.cn (.bi .sorted (.cn (.fn 54 (.cn (.var 0) (.cn (.lrng (.var 1)) (.cn (.fn 53 (.cn (.var 0) (.cn (.lst (.cn (.int 0) (.cn (.int 1) (.cn (.int 1) (.cn (.int 2) (.cn (.int 2) (.cn (.int 2) .nl))))))) .nl))) .nl)))) .nl)) .nl))) (.seq (.asg 7 false (.int 1)) (.seq (.for_ (.one 8) (.sq (.var 6)) (.seq (.asg 7 false (.mul (.var 7) (.idx (.var 4) (.var 8)))) .nil)) (.seq (.asg 9 false (.bi .tuple (.cn (.lc [10] (.one 10) (.rng (.var 7)) (.bl true) (.fn 51 (.cn (.var 0) (.cn (.idx (.var 4) (.var 3)) .nl))) false) .nl))) (.seq (.app 5 (.tup (.cn (.slc (.tup (.cn (.str "no") (.cn (.str "yes") (.cn (.str "zeal") .nl)))) .nl (.sm (.idx (.var 4) (.var 3)))) (.cn (.var 6) (.cn (.var 9) .nl))))) .nil))))
theorem slcN {n : Nat} : slcD (.tup [.str "no", .str "yes", .str "zeal"]) none (some (n : Int)) = some (.p (.tup ((nms.map D.str).take n))) := slc_t
theorem prod_le3 {l : List Nat} (h : ∀ s ∈ l, s ≤ 3) : prodL l ≤ 3 ^ l.length := by
  induction l with
  | nil => simp [prodL]
  | cons a l ih =>
    rw [prodL_cons, List.length_cons, Nat.pow_succ, Nat.mul_comm]
    exact Nat.mul_le_mul (ih fun s hs => h s (by simp [hs])) (h a (by simp))
theorem hl_loop {l : Nat} {sz : List Nat} {x2 : Option R} (h3 : ∀ s ∈ sz, 1 ≤ s ∧ s ≤ 3) (h2 : sz.length ≤ 2) : ∀ {js : List Nat} {k : Nat} {ts : Tin} {fd : List Fd} {a b c d e f : Option R}, (∀ j ∈ js, j < sz.length) → OkT k ts → k + 2000 * js.length ≤ 10000000 → fd.length + js.length ≤ 1000 →
    ∃ a' b' c' d' e' f' fs ts', forL (turn (FL (l + 2)) (.one 3) hlBody) (ns js) [some (.p .tin), some (.p (.int (sz.length : Nat))), x2, a, some (.p (.lst (ns sz))), some (.o1 (fd.map encF)), b, c, d, e, f] ts
      = some (.nx [some (.p .tin), some (.p (.int (sz.length : Nat))), x2, a', some (.p (.lst (ns sz))), some (.o1 ((fd ++ fs).map encF)), b', c', d', e', f'], ts') ∧ Fa2 (FldOk sz) js fs ∧ OkT (k + 2000 * js.length) ts'
  | [], k, ts, fd, a, b, c, d, e, f, _, ot, _, _ => ⟨a, b, c, d, e, f, [], ts, by rw [List.append_nil]; rfl, trivial, ot⟩
  | j :: js, k, ts, fd, a, b, c, d, e, f, hj, ot, hk, hl => by
    simp only [List.length_cons] at hk hl
    have hj0 := hj j (by simp)
    have s3 : ∀ s ∈ sz, s ≤ 3 := fun s hs => (h3 s hs).2
    obtain ⟨n, ts1, e1, hn, ot1⟩ := f_of (l := l) (enc := fun (n : Nat) => .int (n : Int)) (xs := [0, 1, 1, 2, 2, 2]) (by simp) (by simp) (fun _ => rfl) ot (by omega)
    have hn2 : n ≤ 2 := by
      simp only [List.mem_cons, List.not_mem_nil, or_false] at hn
      omega
    obtain ⟨gs, rest, ts2, e2, ot2, pm, ln⟩ := f_pick (l := l) (n := n) (goods := List.range sz.length) (by simp; omega) ot1 (by omega)
    rw [List.length_range] at ln
    have nd : gs.Nodup := by
      have := pm.nodup_iff.mpr List.nodup_range
      exact (List.nodup_append.mp this).1
    have gh : ∀ e ∈ gs, e < sz.length := fun e he => List.mem_range.mp (pm.mem_iff.mp (List.mem_append.mpr (.inl he)))
    have gl : gs.length ≤ 2 := by omega
    have sl : (sortN gs).length = gs.length := sortN_perm.length_eq
    have eh : ∀ e ∈ sortN gs, e < sz.length := fun e he => gh e (sortN_perm.mem_iff.mp he)
    have pb : prodL ((sortN gs).map fun e => sz.getD e 0) ≤ 9 := by
      have p1 := prod_le3 (l := (sortN gs).map fun e => sz.getD e 0) (fun s hs => by
        obtain ⟨q, hq, rfl⟩ := List.mem_map.mp hs
        exact s3 _ (getD_mem (eh q hq)))
      have p2 : 3 ^ ((sortN gs).map fun e => sz.getD e 0).length ≤ 3 ^ 2 := Nat.pow_le_pow_right (by omega) (by rw [List.length_map]; omega)
      omega
    obtain ⟨d1, e3⟩ := hz_in (F := FL (l + 2)) (ts := ts2) (x0 := some (.p .tin)) (x1 := some (.p (.int (sz.length : Nat)))) (x2 := x2) (x3 := some (.p (.int (j : Nat)))) (x5 := some (.o1 (fd.map encF))) (x6 := some (.p (tns (sortN gs)))) (x9 := e) (x10 := f) s3 (es := sortN gs) (s := 1) (a := d) eh
    have sj := h3 _ (getD_mem (d := 0) hj0)
    obtain ⟨tb, ts3, e4, fa, ot3⟩ := bs_lcD (F := FL (l + 2)) (ρ := [some (.p .tin), some (.p (.int (sz.length : Nat))), x2, some (.p (.int (j : Nat))), some (.p (.lst (ns sz))), some (.o1 (fd.map encF)), some (.p (tns (sortN gs))), some (.p (.int (prodL ((sortN gs).map fun e => sz.getD e 0) : Nat))), d1, e, f]) (ts := ts2) (ts1 := ts2) (it := .rng (.var 7)) (own := [10]) (tg := .one 10) (elt := .fn 51 (.cn (.var 0) (.cn (.idx (.var 4) (.var 3)) .nl))) (l := List.range (prodL ((sortN gs).map fun e => sz.getD e 0))) (enc := fun (n : Nat) => .int (n : Int)) (enc2 := fun (n : Nat) => .int (n : Int)) (k := k + 1 + 1000) (c := 1) (K := 100000000) (fun _ v => v < sz.getD j 0) (bs_rng (bs_var rfl) (rngD_nat (by omega))) ot2 (by rw [List.length_range]; omega) (by
      intro q hq k' ts ot hk
      obtain ⟨v, ts', e, hv, ot2⟩ := f_take (l := l + 1) (n := sz.getD j 0) (by omega) (by omega) ot (by omega)
      exact ⟨_, _, v, ts', rfl, bs_fn (bs_cn (bs_var rfl) (bs_cn (bs_idx (bs_var rfl) (bs_var rfl) (idx_ln (getD_at hj0 (d := 0)))) bs_nl)) e rfl, rfl, hv, ot2⟩)
    rw [List.length_range] at ot3
    have tl := fa.len
    rw [List.length_range] at tl
    have fo : FldOk sz j ⟨nms.take (sz.getD j 0), sortN gs, tb⟩ := ⟨rfl, sortN_lt nd, eh, by show (sortN gs).length ≤ 2; omega, tl.symm, fun t ht => by obtain ⟨_, _, z⟩ := fa.mem ht; exact z⟩
    obtain ⟨a', b', c', d', e', f', fs, ts4, ih, q, ot4⟩ := hl_loop (l := l) (x2 := x2) h3 h2 (js := js) (k := k + 2000) (ts := ts3) (fd := fd ++ [⟨nms.take (sz.getD j 0), sortN gs, tb⟩]) (a := some (.p (.int (j : Nat)))) (b := some (.p (tns (sortN gs)))) (c := some (.p (.int (prodL ((sortN gs).map fun e => sz.getD e 0) : Nat)))) (d := d1) (e := some (.p (tns tb))) (f := f) (fun z hz => hj z (by simp [hz])) (ot3.mono (by omega)) (by omega) (by simp; omega)
    refine ⟨a', b', c', d', e', f', ⟨nms.take (sz.getD j 0), sortN gs, tb⟩ :: fs, ts4, ?_, ⟨fo, q⟩, ot4.mono (by simp only [List.length_cons]; omega)⟩
    have st : turn (FL (l + 2)) (.one 3) hlBody [some (.p .tin), some (.p (.int (sz.length : Nat))), x2, a, some (.p (.lst (ns sz))), some (.o1 (fd.map encF)), b, c, d, e, f] (.int (j : Nat)) ts
        = some (.nx [some (.p .tin), some (.p (.int (sz.length : Nat))), x2, some (.p (.int (j : Nat))), some (.p (.lst (ns sz))), some (.o1 ((fd ++ [(⟨nms.take (sz.getD j 0), sortN gs, tb⟩ : Fd)]).map encF)), some (.p (tns (sortN gs))), some (.p (.int (prodL ((sortN gs).map fun e => sz.getD e 0) : Nat))), d1, some (.p (tns tb)), f], ts3) := by
      have e5 : (fd ++ [(⟨nms.take (sz.getD j 0), sortN gs, tb⟩ : Fd)]).map encF = fd.map encF ++ [.tup [.tup ((nms.map D.str).take (sz.getD j 0)), tns (sortN gs), tns tb]] := by
        rw [List.map_append, ← List.map_take]; rfl
      rw [e5]
      exact bturn rfl (bx_seq (bx_asg (r := .p (tns (sortN gs))) (bs_bi (bs_cn (bs_bi (r := .o1 (ns (sortN gs))) (bs_cn (bs_fn (bs_cn (bs_var rfl) (bs_cn (bs_lrng (bs_var rfl) (rngD_nat (by omega))) (bs_cn (bs_fn (bs_cn (bs_var rfl) (bs_cn (bs_lst (bs_cn bs_int (bs_cn bs_int (bs_cn bs_int (bs_cn bs_int (bs_cn bs_int (bs_cn bs_int bs_nl)))))) (show 6 ≤ 1000000 by omega)) bs_nl)) e1 rfl) bs_nl))) e2 cl_ns) bs_nl) (srt_n (by omega))) bs_nl) rfl) rfl)
        (bx_seq (bx_asg bs_int rfl) (bx_seq (bx_for (bs_sq (bs_var rfl) rfl) e3) (bx_seq (bx_asg (bs_bi (r := .p (tns tb)) (bs_cn e4 bs_nl) rfl) rfl)
        (bx_seq (bx_app (x := .p (.tup [.tup ((nms.map D.str).take (sz.getD j 0)), tns (sortN gs), tns tb])) (bs_tup (bs_cn (x := .p (.tup ((nms.map D.str).take (sz.getD j 0)))) (bs_slc (bs_tup (bs_cn bs_str (bs_cn bs_str (bs_cn bs_str bs_nl))) (show 3 ≤ 1000000 by omega)) bs_nlO (bs_sm (bs_idx (bs_var rfl) (bs_var rfl) (idx_ln (getD_at hj0 (d := 0))))) slcN) (bs_cn (bs_var rfl) (bs_cn (bs_var rfl) bs_nl))) (show 3 ≤ 1000000 by omega)) rfl (by rw [List.length_map]; show _ < 1000000; omega)) bx_nil)))))
    show forL _ (D.int (j : Int) :: ns js) _ _ = _
    simp only [forL, st]
    rw [show fd ++ ((⟨nms.take (sz.getD j 0), sortN gs, tb⟩ : Fd) :: fs) = fd ++ [(⟨nms.take (sz.getD j 0), sortN gs, tb⟩ : Fd)] ++ fs by simp]
    exact ih
/-- a drawn house -/
structure DrH (h : Hs) : Prop where
  ok : HsOk h
  l2 : h.length ≤ 2
  l0 : h ≠ []
  ss : StrsOk h
  rn : HsOk (renH h)
theorem nm_take {n : Nat} (h1 : 1 ≤ n) (h3 : n ≤ 3) : (nms.take n).length = n ∧ (nms.take n).Nodup ∧ (∀ v ∈ nms.take n, isNm v = true) ∧ (∀ v ∈ nms.take n, PyData.strOk v = true) ∧ (("zzz" : Str) :: (nms.take n).tail).Nodup := by
  have all3 : ∀ v ∈ nms, isNm v = true ∧ PyData.strOk v = true := by
    intro v hv
    simp only [nms, List.mem_cons, List.not_mem_nil, or_false] at hv
    rcases hv with rfl | rfl | rfl
    · exact ⟨nm0, by decide +kernel⟩
    · exact ⟨nm1, by decide +kernel⟩
    · exact ⟨nm2, by decide +kernel⟩
  have nd : nms.Nodup := by decide +kernel
  have nd2 : (("zzz" : Str) :: nms.tail).Nodup := by decide +kernel
  refine ⟨by rw [List.length_take]; show min n 3 = n; omega, nd.sublist (List.take_sublist _ _), fun v hv => (all3 v (List.mem_of_mem_take hv)).1, fun v hv => (all3 v (List.mem_of_mem_take hv)).2, ?_⟩
  refine nd2.sublist (List.Sublist.cons_cons _ ?_)
  exact (List.take_sublist _ _).tail
theorem hall_ok {sz : List Nat} {fs : List Fd} (h3 : ∀ s ∈ sz, 1 ≤ s ∧ s ≤ 3) (h2 : sz.length ≤ 2) (h1 : 0 < sz.length) (fa : Fa2 (FldOk sz) (List.range sz.length) fs) : DrH fs := by
  have ln := fa.len
  rw [List.length_range] at ln
  have get : ∀ (i : Nat) (f : Fd), fs[i]? = some f → i < sz.length ∧ FldOk sz i f := fun i f e => by
    have hi := (List.getElem?_eq_some_iff.mp e).1
    have hi2 : i < sz.length := by omega
    exact ⟨hi2, fa.at (List.getElem?_range hi2) e⟩
  have sz3 : ∀ i, i < sz.length → 1 ≤ sz.getD i 0 ∧ sz.getD i 0 ≤ 3 := fun i hi => h3 _ (getD_mem hi)
  have szE : ∀ i, i < sz.length → szs fs i = sz.getD i 0 := fun i hi => by
    obtain ⟨f, e⟩ := at_lt (l := fs) (i := i) (by omega)
    rw [szs_f e, (get i f e).2.v]
    exact (nm_take (sz3 i hi).1 (sz3 i hi).2).1
  have mp : ∀ (i : Nat) (f : Fd), fs[i]? = some f → f.eyes.map (fun e => sz.getD e 0) = f.eyes.map (szs fs) := fun i f e => List.map_congr_left fun q hq => (szE q ((get i f e).2.eh q hq)).symm
  have t9 : ∀ (i : Nat) (f : Fd), fs[i]? = some f → f.tab.length ≤ 9 := fun i f e => by
    have fo := (get i f e).2
    have p1 := prod_le3 (l := f.eyes.map fun e => sz.getD e 0) (fun s hs => by
      obtain ⟨q, hq, rfl⟩ := List.mem_map.mp hs
      exact (sz3 q (fo.eh q hq)).2)
    have p2 : 3 ^ (f.eyes.map fun e => sz.getD e 0).length ≤ 3 ^ 2 := Nat.pow_le_pow_right (by omega) (by rw [List.length_map]; exact fo.el)
    rw [fo.tl]; omega
  have fdok : ∀ f ∈ fs, FdOk fs f := fun f hf => by
    obtain ⟨i, hi, e⟩ := List.mem_iff_getElem?.mp hf |>.imp fun i e => (⟨(List.getElem?_eq_some_iff.mp e).1, e⟩ : ∃ _ : i < fs.length, fs[i]? = some f)
    obtain ⟨hi2, fo⟩ := get i f e
    have nt := nm_take (sz3 i hi2).1 (sz3 i hi2).2
    have s3 := sz3 i hi2
    refine ⟨?_, ?_, ?_, ?_, fo.er, by have := fo.el; omega, fun q hq => by rw [← ln]; exact fo.eh q hq, ?_, ?_, by have := t9 i f e; omega⟩
    · intro z
      have := nt.1
      rw [← fo.v, z] at this
      have : 0 = sz.getD i 0 := this
      omega
    · rw [fo.v, nt.1]; omega
    · rw [fo.v]; exact nt.2.1
    · rw [fo.v]; exact nt.2.2.1
    · rw [fo.v, nt.1]; exact fo.tv
    · rw [fo.tl, mp i f e]
  have ok : HsOk fs := ⟨by omega, fdok⟩
  obtain ⟨f, r, rfl⟩ : ∃ f r, fs = f :: r := List.exists_cons_of_ne_nil (by intro z; rw [z] at ln; have : sz.length = 0 := ln; omega)
  refine ⟨ok, by omega, by simp, ?_, ?_⟩
  · intro g hg v hv
    obtain ⟨i, e⟩ := List.mem_iff_getElem?.mp hg
    obtain ⟨hi2, fo⟩ := get i g e
    rw [fo.v] at hv
    exact (nm_take (sz3 i hi2).1 (sz3 i hi2).2).2.2.2.1 v hv
  · obtain ⟨hi2, fo⟩ := get 0 f rfl
    have nt := nm_take (sz3 0 hi2).1 (sz3 0 hi2).2
    have s3 := sz3 0 hi2
    have f0 := fdok f (by simp)
    have vl : (renF f).vals.length = f.vals.length := by
      simp only [renF, List.length_cons, List.length_tail]
      have := List.length_pos_iff.mpr f0.v0
      omega
    have se : ∀ p, szs (renH (f :: r)) p = szs (f :: r) p := fun p => by
      cases p with
      | zero => simp only [renH, szs, List.getElem?_cons_zero]; exact vl
      | succ p => simp [renH, szs]
    have mp2 : ∀ l : List Nat, l.map (szs (renH (f :: r))) = l.map (szs (f :: r)) := fun l => List.map_congr_left fun q _ => se q
    refine ⟨ok.l8, fun g hg => ?_⟩
    rcases List.mem_cons.mp hg with rfl | hg
    · refine ⟨by simp [renF], by rw [vl]; exact f0.v5, ?_, ?_, f0.er, f0.el, f0.eh, fun t ht => by rw [vl]; exact f0.tv t ht, by rw [mp2]; exact f0.tl, f0.t60⟩
      · show (("zzz" : Str) :: f.vals.tail).Nodup
        rw [fo.v]; exact nt.2.2.2.2
      · intro v hv
        rcases List.mem_cons.mp hv with rfl | hv
        · exact nm3
        · exact f0.vm v (List.mem_of_mem_tail hv)
    · have g0 := fdok g (by simp [hg])
      exact ⟨g0.v0, g0.v5, g0.vn, g0.vm, g0.er, g0.el, g0.eh, g0.tv, by rw [mp2]; exact g0.tl, g0.t60⟩
theorem f_hall {l k n : Nat} {ts : Tin} (h1 : 0 < n) (h2 : n ≤ 2) (ot : OkT k ts) (hk : k ≤ 1000000) : ∃ (h : Hs) (ts' : Tin), FL (l + 3) 59 [.tin, .int (n : Nat), .int 3] ts = some (.p (encH h), ts') ∧ DrH h ∧ OkT (k + 5000) ts' := by
  obtain ⟨sz, ts1, e1, fa, ot1⟩ := bs_lcD (F := FL (l + 2)) (ρ := [some (.p .tin), some (.p (.int (n : Nat))), some (.p (.int 3)), none, none, none, none, none, none, none, none]) (ts := ts) (ts1 := ts) (it := .rng (.var 1)) (own := [3]) (tg := .one 3) (elt := .fn 53 (.cn (.var 0) (.cn (.slc (.lst (.cn (.int 1) (.cn (.int 2) (.cn (.int 2) (.cn (.int 2) (.cn (.int 3) (.cn (.int 3) .nl))))))) .nl (.sm (.mul (.var 2) (.int 2)))) .nl))) (l := List.range n) (enc := fun (n : Nat) => .int (n : Int)) (enc2 := fun (n : Nat) => .int (n : Int)) (k := k) (c := 1) (K := 100000000) (fun _ v => 1 ≤ v ∧ v ≤ 3) (bs_rng (bs_var rfl) (rngD_nat (by omega))) ot (by rw [List.length_range]; omega) (by
    intro q hq k' ts ot hk
    obtain ⟨v, ts', e, hv, ot2⟩ := f_of (l := l) (enc := fun (n : Nat) => .int (n : Int)) (xs := [1, 2, 2, 2, 3, 3]) (by simp) (by simp) (fun _ => rfl) ot (by omega)
    refine ⟨_, _, v, ts', rfl, bs_fn (bs_cn (bs_var rfl) (bs_cn (bs_slc (bs_lst (bs_cn bs_int (bs_cn bs_int (bs_cn bs_int (bs_cn bs_int (bs_cn bs_int (bs_cn bs_int bs_nl)))))) (show 6 ≤ 1000000 by omega)) bs_nlO (bs_sm (bs_mul (bs_var rfl) bs_int (mul_r ⟨by omega, by omega⟩))) (r := .o1 (ns [1, 2, 2, 2, 3, 3])) rfl) bs_nl)) e rfl, rfl, ?_, ot2⟩
    simp only [List.mem_cons, List.not_mem_nil, or_false] at hv
    omega)
  rw [List.length_range] at ot1
  have ln := fa.len
  rw [List.length_range] at ln
  subst ln
  have h3 : ∀ s ∈ sz, 1 ≤ s ∧ s ≤ 3 := fun s hs => by obtain ⟨_, _, z⟩ := fa.mem hs; exact z
  obtain ⟨a', b', c', d', e', f', fs, ts2, e2, fb, ot2⟩ := hl_loop (l := l) (sz := sz) (x2 := some (.p (.int 3))) h3 h2 (js := List.range sz.length) (k := k + 10) (ts := ts1) (fd := []) (a := none) (b := none) (c := none) (d := none) (e := none) (f := none) (fun j hj => List.mem_range.mp hj) (ot1.mono (by omega)) (by rw [List.length_range]; omega) (by rw [List.length_range]; simp; omega)
  rw [List.length_range] at ot2
  refine ⟨fs, ts2, FL_rt rfl rfl (bx_seq (bx_par e1 (bs_lst bs_nl (by decide)) rfl rfl) (bx_seq (bx_for (bs_rng (bs_var rfl) (rngD_nat (by omega))) e2) (bx_rt (bx_ret (bs_brw (bs_bi (r := .p (encH fs)) (bs_cn (bs_var rfl) bs_nl) rfl) cl_h) cl_h)))), hall_ok h3 h2 h1 fb, ot2.mono (by omega)⟩
end Lt.Mt

namespace Lt.Mt
open PySem

/-! ### runs by counts: one behind another -/
theorem cntM_app {many : List Nat} {a b : List Mv} : cntM many (a ++ b) = cntM (cntM many a) b := by simp [cntM]
theorem runC_app {h : Hs} : ∀ {a : List Mv} {b : List Mv} {many : List Nat}, RunC h many (a ++ b) ↔ RunC h many a ∧ RunC h (cntM many a) b
  | [], b, many => by simp [RunC]; rfl
  | m :: a, b, many => by
    rw [List.cons_append, RunC, RunC, runC_app, and_assoc]
    rfl
theorem flipV_app {h : Hs} : ∀ {a : List Mv} {b : List Mv} {many : List Nat}, flipV h many (a ++ b) = flipV h many a ++ flipV h (cntM many a) b
  | [], b, many => rfl
  | m :: a, b, many => by
    rw [List.cons_append, flipV, flipV, flipV_app]
    rfl
theorem flipV_cnt {h : Hs} : ∀ {a : List Mv} {many mm : List Nat}, cntM many (flipV h mm a) = cntM many a
  | [], _, _ => rfl
  | m :: a, many, mm => by
    show cntM (bump many m.1) (flipV h (bump mm m.1) a) = cntM (bump many m.1) a
    rw [flipV_cnt]
theorem flipV_len {h : Hs} : ∀ {a : List Mv} {many : List Nat}, (flipV h many a).length = a.length
  | [], _ => rfl
  | m :: a, many => by simp [flipV, flipV_len (a := a)]
theorem flip1_ok {h : Hs} {many : List Nat} {m : Mv} (mo : MvC h many m) : MvC h many (flip1 h many m) := by
  refine ⟨mo.pl, ?_, ?_⟩
  · show ((eyesOf h m.1).zip m.2 |>.map _).length = _
    simp [mo.ln]; rfl
  · intro p hp
    replace hp : p ∈ (eyesOf h m.1).zip (((eyesOf h m.1).zip m.2).map fun p => many.getD p.1 0 - 1 - p.2) := hp
    obtain ⟨i, hi, e⟩ := List.mem_iff_getElem.mp hp
    simp only [List.length_zip, List.length_map] at hi
    rw [List.getElem_zip, List.getElem_map, List.getElem_zip] at e
    have hb := mo.bd ((eyesOf h m.1)[i]'(by omega), m.2[i]'(by omega)) (by
      rw [List.mem_iff_getElem]
      exact ⟨i, by rw [List.length_zip]; omega, List.getElem_zip ..⟩)
    rw [← e]
    simp only at hb ⊢
    omega
theorem flipV_ok {h : Hs} : ∀ {a : List Mv} {many : List Nat}, RunC h many a → RunC h many (flipV h many a)
  | [], _, _ => trivial
  | m :: a, many, ro => ⟨flip1_ok ro.1, flipV_ok ro.2⟩
theorem bump_ge {many : List Nat} {j i : Nat} : many.getD i 0 ≤ (bump many j).getD i 0 := by
  unfold bump
  by_cases hj : j < many.length
  · rw [getD_set hj]
    split
    · rename_i h; subst h; omega
    · exact Nat.le_refl _
  · rw [List.set_eq_of_length_le (by omega)]; exact Nat.le_refl _
theorem cntM_ge {i : Nat} : ∀ {ms : List Mv} {many : List Nat}, many.getD i 0 ≤ (cntM many ms).getD i 0
  | [], _ => Nat.le_refl _
  | m :: ms, many => Nat.le_trans bump_ge (cntM_ge (ms := ms) (many := bump many m.1))

/-! ### depths -/
theorem dep1_ge {fd : List Nat} {p : Nat × Nat} {i : Nat} : fd.getD i 0 ≤ (dep1 fd p).getD i 0 := by
  unfold dep1
  by_cases hj : p.1 < fd.length
  · rw [getD_set hj]
    split
    · rename_i h; subst h; omega
    · exact Nat.le_refl _
  · rw [List.set_eq_of_length_le (by omega)]; exact Nat.le_refl _
theorem dep_ge {i : Nat} : ∀ {ps : List (Nat × Nat)} {fd : List Nat}, fd.getD i 0 ≤ (ps.foldl dep1 fd).getD i 0
  | [], _ => Nat.le_refl _
  | p :: ps, fd => Nat.le_trans dep1_ge (dep_ge (ps := ps) (fd := dep1 fd p))
theorem depV_ge {h : Hs} {i : Nat} : ∀ {sp : List Mv} {fd : List Nat}, fd.getD i 0 ≤ (depV h fd sp).getD i 0
  | [], _ => Nat.le_refl _
  | m :: sp, fd => Nat.le_trans dep_ge (depV_ge (sp := sp) (fd := depM h fd m))
theorem dep_has {p : Nat × Nat} : ∀ {ps : List (Nat × Nat)} {fd : List Nat}, p ∈ ps → p.1 < fd.length → p.2 + 1 ≤ (ps.foldl dep1 fd).getD p.1 0
  | [], _, h, _ => by simp at h
  | q :: ps, fd, h, hl => by
    rcases List.mem_cons.mp h with rfl | h
    · refine Nat.le_trans ?_ (dep_ge (ps := ps) (fd := dep1 fd p))
      rw [dep1, getD_set hl, if_pos rfl]; omega
    · exact dep_has (ps := ps) (fd := dep1 fd q) h (by rw [dep1_len]; exact hl)
theorem depV_has {h : Hs} {m : Mv} {p : Nat × Nat} : ∀ {sp : List Mv} {fd : List Nat}, m ∈ sp → p ∈ (eyesOf h m.1).zip m.2 → p.1 < fd.length → p.2 + 1 ≤ (depV h fd sp).getD p.1 0
  | [], _, hm, _, _ => by simp at hm
  | q :: sp, fd, hm, hp, hl => by
    rcases List.mem_cons.mp hm with rfl | hm
    · exact Nat.le_trans (dep_has hp hl) (depV_ge (sp := sp) (fd := depM h fd m))
    · exact depV_has (sp := sp) (fd := depM h fd q) hm hp (by rw [depM, dep_len]; exact hl)
/-- what strides are, whatever there is -/
structure SpOk (h : Hs) (m : Mv) : Prop where
  pl : m.1 < h.length
  ln : m.2.length = (eyesOf h m.1).length
theorem eyes_lt {h : Hs} {j e : Nat} (ok : HsOk h) (he : e ∈ eyesOf h j) : e < h.length := by
  unfold eyesOf at he
  split at he
  · rename_i f e1; exact (ok.fd f (List.mem_of_getElem? e1)).eh e he
  · simp at he
theorem runC_dep {h : Hs} (ok : HsOk h) {d : List Nat} : ∀ {sp : List Mv} {many : List Nat}, (∀ m ∈ sp, SpOk h m) → (∀ m ∈ sp, ∀ p ∈ (eyesOf h m.1).zip m.2, p.2 + 1 ≤ d.getD p.1 0) → (∀ j, j < h.length → d.getD j 0 ≤ many.getD j 0) → RunC h many sp
  | [], _, _, _, _ => trivial
  | m :: sp, many, hs, hd, hm => by
    have so := hs m (by simp)
    refine ⟨⟨so.pl, so.ln, fun p hp => ?_⟩, runC_dep ok (fun q hq => hs q (by simp [hq])) (fun q hq => hd q (by simp [hq])) fun j hj => Nat.le_trans (hm j hj) bump_ge⟩
    have h1 := hd m (by simp) p hp
    have h2 := hm p.1 (eyes_lt ok (List.of_mem_zip (show (p.1, p.2) ∈ _ from hp)).1)
    omega
theorem runC_deep {h : Hs} (ok : HsOk h) {sp : List Mv} {many : List Nat} (hs : ∀ m ∈ sp, SpOk h m) (hm : ∀ j, j < h.length → (depV h (ones h) sp).getD j 0 ≤ many.getD j 0) : RunC h many sp :=
  runC_dep ok hs (fun m hm p hp => depV_has hm hp (by rw [ones_len]; exact eyes_lt ok (List.of_mem_zip (show (p.1, p.2) ∈ _ from hp)).1)) hm
theorem depV_pos {h : Hs} {sp : List Mv} {j : Nat} (hj : j < h.length) : 0 < (depV h (ones h) sp).getD j 0 := by
  refine Nat.lt_of_lt_of_le ?_ depV_ge
  rw [ones, List.getD_eq_getElem?_getD, List.getElem?_replicate, if_pos hj]; simp
theorem depV_app {h : Hs} {fd : List Nat} {a b : List Mv} : depV h fd (a ++ b) = depV h (depV h fd a) b := by simp [depV]
theorem runOk_app2 {h : Hs} {a b : List Mv} {rows : List (List Nat)} (ro : RunOk h rows a) (rc : RunC h (cntM (lens rows) a) b) : RunOk h rows (a ++ b) := by
  rw [← runC_iff, runC_app]
  exact ⟨runC_iff.mpr ro, rc⟩
theorem gone_ok {h : Hs} {s : St} {ms sp : List Mv} (ro : RunOk h (firstV h s) ms) (rc : RunC h (cntM (lens (firstV h s)) ms) sp) : RunOk h (firstV h s) (goneV h s ms sp) :=
  runOk_app2 ro (flipV_ok rc)
theorem gone_cnt {h : Hs} {s : St} {ms sp : List Mv} : cntM (lens (firstV h s)) (goneV h s ms sp) = cntM (cntM (lens (firstV h s)) ms) sp := by
  rw [goneV, cntM_app, flipV_cnt]
theorem gone_len {h : Hs} {s : St} {ms sp : List Mv} : (goneV h s ms sp).length = ms.length + sp.length := by rw [goneV, List.length_append, flipV_len]
theorem first_pos {h : Hs} {s : St} {j : Nat} (hj : j < h.length) : 0 < (lens (firstV h s)).getD j 0 := by
  rw [lens_at]; exact List.length_pos_iff.mpr (firstV_ne hj)
end Lt.Mt

namespace Lt.Mt
open PySem

/-! ### weaving -/
def shM (n : Nat) (m : Mv) : Mv := (m.1 + n, m.2)
inductive Wv (n : Nat) : List Mv → List Mv → List Mv → Prop
  | nil : Wv n [] [] []
  | l {a b c : List Mv} {m : Mv} : Wv n a b c → Wv n (m :: a) b (m :: c)
  | r {a b c : List Mv} {m : Mv} : Wv n a b c → Wv n a (m :: b) (shM n m :: c)
theorem Wv.len {n : Nat} {a b c : List Mv} (w : Wv n a b c) : c.length = a.length + b.length := by
  induction w with
  | nil => rfl
  | l _ ih => simp [ih]; omega
  | r _ ih => simp [ih]; omega
theorem ipd_m {k : Nat} {m : Mv} : ipd (k + 2) (encM m) = true := by
  simp only [encM, ipd, List.all_cons, List.all_nil, ipd_tns, Bool.and_true]
theorem eq_nilM {xs : List Mv} : eqD (.lst (xs.map encM)) (.lst []) = some xs.isEmpty := by
  rw [eqLL (k := 3) (xs := xs.map encM) (ys := []) (ipd_l (enc := encM) fun a _ => ipd_m) rfl (by omega)]
  cases xs <;> rfl
theorem ne_nilM {xs : List Mv} : cmpD .ne (.lst (xs.map encM)) (.lst []) = some (!xs.isEmpty) := by
  simp only [cmpD, eq_nilM]
def wvBody : Stm := .seq (.ife (.brw (.or_ (.cmp .eq (.var 6) (.lst .nl)) (.and_ (.cmp .ne (.var 5) (.lst .nl)) (.cmp .eq (.fn 51 (.cn (.var 0) (.cn (.int 2) .nl))) (.int 0))))) (.seq (.apop 7 5 (.int 0)) .nil) (.seq (.apop 7 6 (.int 0)) .nil)) .nil
theorem wv_loop {l n : Nat} {x1 x2 x3 x8 : Option R} : ∀ {q : List D} {k : Nat} {ts : Tin} {A B fd : List Mv} {a : Option R}, q.length = A.length + B.length → OkT k ts → k + q.length ≤ 100000000 → fd.length + q.length ≤ 100000 →
    ∃ a' l' r' C ts', forL (turn (FL (l + 1)) (.one 4) wvBody) q [some (.p .tin), x1, x2, x3, a, some (.o1 (A.map encM)), some (.o1 ((B.map (shM n)).map encM)), some (.o1 (fd.map encM)), x8] ts
      = some (.nx [some (.p .tin), x1, x2, x3, a', l', r', some (.o1 ((fd ++ C).map encM)), x8], ts') ∧ Wv n A B C ∧ OkT (k + q.length) ts'
  | [], k, ts, A, B, fd, a, hq, ot, _, _ => by
    have hA : A = [] := List.length_eq_zero_iff.mp (by simp at hq; omega)
    have hB : B = [] := List.length_eq_zero_iff.mp (by simp at hq; omega)
    subst hA; subst hB
    exact ⟨a, _, _, [], ts, by rw [List.append_nil]; rfl, .nil, ot⟩
  | d :: q, k, ts, A, B, fd, a, hq, ot, hk, hl => by
    simp only [List.length_cons] at hq hk hl
    -- the turn takes a left one, or a right one
    have goL : ∀ {m : Mv} {A' : List Mv} {ts1 : Tin}, A = m :: A' → OkT (k + 1) ts1 → ev (FL (l + 1)) (.brw (.or_ (.cmp .eq (.var 6) (.lst .nl)) (.and_ (.cmp .ne (.var 5) (.lst .nl)) (.cmp .eq (.fn 51 (.cn (.var 0) (.cn (.int 2) .nl))) (.int 0))))) [some (.p .tin), x1, x2, x3, some (.p d), some (.o1 (A.map encM)), some (.o1 ((B.map (shM n)).map encM)), some (.o1 (fd.map encM)), x8] ts = some (.p (.bl true), ts1) →
        ∃ a' l' r' C ts', forL (turn (FL (l + 1)) (.one 4) wvBody) (d :: q) [some (.p .tin), x1, x2, x3, a, some (.o1 (A.map encM)), some (.o1 ((B.map (shM n)).map encM)), some (.o1 (fd.map encM)), x8] ts
      = some (.nx [some (.p .tin), x1, x2, x3, a', l', r', some (.o1 ((fd ++ C).map encM)), x8], ts') ∧ Wv n A B C ∧ OkT (k + (q.length + 1)) ts' := by
      rintro m A' ts1 rfl ot1 ec
      obtain ⟨a', l', r', C, ts2, ih, w, ot2⟩ := wv_loop (l := l) (n := n) (x1 := x1) (x2 := x2) (x3 := x3) (x8 := x8) (q := q) (k := k + 1) (ts := ts1) (A := A') (B := B) (fd := fd ++ [m]) (a := some (.p d)) (by simp at hq; omega) ot1 (by omega) (by simp; omega)
      refine ⟨a', l', r', m :: C, ts2, ?_, .l w, ot2.mono (by omega)⟩
      have st : turn (FL (l + 1)) (.one 4) wvBody [some (.p .tin), x1, x2, x3, a, some (.o1 ((m :: A').map encM)), some (.o1 ((B.map (shM n)).map encM)), some (.o1 (fd.map encM)), x8] d ts
          = some (.nx [some (.p .tin), x1, x2, x3, some (.p d), some (.o1 (A'.map encM)), some (.o1 ((B.map (shM n)).map encM)), some (.o1 ((fd ++ [m]).map encM)), x8], ts1) := by
        have e2 : (fd ++ [m]).map encM = fd.map encM ++ [encM m] := by simp
        rw [e2]
        exact bturn rfl (bx_seq (bx_ifT ec (bx_seq (bx_apop (n := 0) (d := encM m) bs_int rfl rfl (ixN_nat (n := 0) (by simp)) rfl (by rw [List.length_map]; show _ < 1000000; omega) (by decide)) bx_nil)) bx_nil)
      simp only [forL, st]
      rw [show fd ++ m :: C = fd ++ [m] ++ C by simp]
      exact ih
    have goR : ∀ {m : Mv} {B' : List Mv} {ts1 : Tin}, B = m :: B' → OkT (k + 1) ts1 → ev (FL (l + 1)) (.brw (.or_ (.cmp .eq (.var 6) (.lst .nl)) (.and_ (.cmp .ne (.var 5) (.lst .nl)) (.cmp .eq (.fn 51 (.cn (.var 0) (.cn (.int 2) .nl))) (.int 0))))) [some (.p .tin), x1, x2, x3, some (.p d), some (.o1 (A.map encM)), some (.o1 ((B.map (shM n)).map encM)), some (.o1 (fd.map encM)), x8] ts = some (.p (.bl false), ts1) →
        ∃ a' l' r' C ts', forL (turn (FL (l + 1)) (.one 4) wvBody) (d :: q) [some (.p .tin), x1, x2, x3, a, some (.o1 (A.map encM)), some (.o1 ((B.map (shM n)).map encM)), some (.o1 (fd.map encM)), x8] ts
      = some (.nx [some (.p .tin), x1, x2, x3, a', l', r', some (.o1 ((fd ++ C).map encM)), x8], ts') ∧ Wv n A B C ∧ OkT (k + (q.length + 1)) ts' := by
      rintro m B' ts1 rfl ot1 ec
      obtain ⟨a', l', r', C, ts2, ih, w, ot2⟩ := wv_loop (l := l) (n := n) (x1 := x1) (x2 := x2) (x3 := x3) (x8 := x8) (q := q) (k := k + 1) (ts := ts1) (A := A) (B := B') (fd := fd ++ [shM n m]) (a := some (.p d)) (by simp at hq; omega) ot1 (by omega) (by simp; omega)
      refine ⟨a', l', r', shM n m :: C, ts2, ?_, .r w, ot2.mono (by omega)⟩
      have st : turn (FL (l + 1)) (.one 4) wvBody [some (.p .tin), x1, x2, x3, a, some (.o1 (A.map encM)), some (.o1 (((m :: B').map (shM n)).map encM)), some (.o1 (fd.map encM)), x8] d ts
          = some (.nx [some (.p .tin), x1, x2, x3, some (.p d), some (.o1 (A.map encM)), some (.o1 ((B'.map (shM n)).map encM)), some (.o1 ((fd ++ [shM n m]).map encM)), x8], ts1) := by
        have e2 : (fd ++ [shM n m]).map encM = fd.map encM ++ [encM (shM n m)] := by simp
        rw [e2]
        exact bturn rfl (bx_seq (bx_ifF ec (bx_seq (bx_apop (n := 0) (d := encM (shM n m)) bs_int rfl rfl (ixN_nat (n := 0) (by simp)) rfl (by rw [List.length_map]; show _ < 1000000; omega) (by decide)) bx_nil)) bx_nil)
      simp only [forL, st]
      rw [show fd ++ shM n m :: C = fd ++ [shM n m] ++ C by simp]
      exact ih
    have eB : ∀ b, (B.map (shM n)).isEmpty = b → cmpD .eq (.lst ((B.map (shM n)).map encM)) (.lst []) = some b := fun b hb => by
      simp only [cmpD, eq_nilM, hb]
    have eA : ∀ b, A.isEmpty = b → cmpD .ne (.lst (A.map encM)) (.lst []) = some (!b) := fun b hb => by rw [ne_nilM, hb]
    cases B with
    | nil =>
      cases A with
      | nil => simp at hq
      | cons m A' => exact goL rfl (ot.mono (by omega)) (bs_brw (bs_orT (bs_cmp (bs_var rfl) (bs_lst bs_nl (by decide)) (eB true rfl))) rfl)
    | cons m B' =>
      cases A with
      | nil => exact goR rfl (ot.mono (by omega)) (bs_brw (r := .p (.bl false)) (bs_orF (bs_cmp (bs_var rfl) (bs_lst bs_nl (by decide)) (eB false rfl)) (bs_andF (bs_cmp (bs_var rfl) (bs_lst bs_nl (by decide)) (eA true rfl)))) rfl)
      | cons m2 A' =>
        obtain ⟨v, ts1, e1, hv, ot1⟩ := f_take (l := l) (n := 2) (by omega) (by omega) ot (by omega)
        have ec : ev (FL (l + 1)) (.brw (.or_ (.cmp .eq (.var 6) (.lst .nl)) (.and_ (.cmp .ne (.var 5) (.lst .nl)) (.cmp .eq (.fn 51 (.cn (.var 0) (.cn (.int 2) .nl))) (.int 0))))) [some (.p .tin), x1, x2, x3, some (.p d), some (.o1 ((m2 :: A').map encM)), some (.o1 (((m :: B').map (shM n)).map encM)), some (.o1 (fd.map encM)), x8] ts = some (.p (.bl (decide (v = 0))), ts1) :=
          bs_brw (r := .p (.bl (decide (v = 0)))) (bs_orF (bs_cmp (bs_var rfl) (bs_lst bs_nl (by decide)) (eB false rfl)) (bs_andT (bs_cmp (bs_var rfl) (bs_lst bs_nl (by decide)) (eA false rfl)) (bs_cmp (bs_fn (bs_cn (bs_var rfl) (bs_cn bs_int bs_nl)) e1 rfl) bs_int (by show cmpD .eq (.int (v : Nat)) (.int ((0 : Nat) : Int)) = _; rw [eq_int])))) rfl
        by_cases h0 : v = 0
        · rw [decide_eq_true h0] at ec
          exact goL rfl ot1 ec
        · rw [decide_eq_false h0] at ec
          exact goR rfl ot1 ec
theorem f_woven {l k n : Nat} {A B : List Mv} {ts : Tin} (hl : A.length + B.length ≤ 90000) (ot : OkT k ts) (hk : k ≤ 10000000) : ∃ (C : List Mv) (ts' : Tin), FL (l + 2) 71 [.tin, encMs A, encMs B, .int (n : Nat)] ts = some (.p (encMs C), ts') ∧ Wv n A B C ∧ OkT (k + 90000) ts' := by
  obtain ⟨a', l', r', C, ts1, e, w, ot1⟩ := wv_loop (l := l) (n := n) (x1 := some (.p (encMs A))) (x2 := some (.p (encMs B))) (x3 := some (.p (.int (n : Nat)))) (x8 := none) (q := ns (List.range (A.length + B.length))) (k := k) (ts := ts) (A := A) (B := B) (fd := []) (a := none) (by simp) ot (by simp; omega) (by simp; omega)
  rw [List.nil_append] at e
  have eB : ((B.map (shM n)).map encM) = B.map fun m => D.tup [.int ((m.1 + n : Nat) : Int), tns m.2] := by rw [List.map_map]; rfl
  refine ⟨C, ts1, FL_rt rfl rfl (bx_seq (bx_tri (ts1 := ts) (ts2 := ts) (ts3 := ts) (y := .o1 ((B.map (shM n)).map encM)) (bs_bi (r := .o1 (A.map encM)) (bs_cn (bs_var rfl) bs_nl) rfl) ?_ (bs_lst bs_nl (by decide)) rfl rfl rfl) (bx_seq (bx_for (bs_rng (bs_add (r := .p (.int ((A.length + B.length : Nat) : Int))) (bs_bi (bs_cn (bs_var rfl) bs_nl) len_tm) (bs_bi (bs_cn (bs_var rfl) bs_nl) len_tm) rfl) (rngD_nat (by omega))) e) (bx_rt (bx_ret (bs_brw (bs_bi (r := .p (encMs C)) (bs_cn (bs_var rfl) bs_nl) rfl) cl_ms) cl_ms)))), w, ot1.mono (by simp; omega)⟩
  rw [eB]
  exact bs_lc (l := B) (enc := encM) _ (bs_sq (bs_var rfl) rfl) fun m hm => ⟨_, _, rfl, bs_tup (bs_cn (bs_add (bs_idx (bs_var rfl) bs_int rfl) (bs_var rfl) rfl) (bs_cn (bs_idx (bs_var rfl) bs_int rfl) bs_nl)) (show 2 ≤ 1000000 by omega), rfl⟩
end Lt.Mt

namespace Lt.Mt
open PySem

/-! ### tails -/
def talV (rows : List (List Nat)) (deep : List Nat) : List (List Nat) := (rows.zip deep).map fun p => tl p.2 p.1
theorem talV_at {rows : List (List Nat)} {deep : List Nat} {j : Nat} (h1 : j < rows.length) (h2 : j < deep.length) : (talV rows deep)[j]? = some (tl (deep.getD j 0) (rows.getD j [])) := by
  rw [talV, List.getElem?_map]
  have : (rows.zip deep)[j]? = some (rows.getD j [], deep.getD j 0) := by
    rw [List.getElem?_zip_eq_some]; exact ⟨getD_at h1, getD_at h2⟩
  rw [this]; rfl
theorem f_tails {l : Nat} {h : Hs} {s : St} {ms : List Mv} {deep : List Nat} {ts : Tin} (ok : HsOk h) (so : StOk h s) (ro : RunOk h (firstV h s) ms) (lo : ms.length ≤ 90000) (dp : ∀ d ∈ deep, 0 < d) : FL (l + 4) 70 [encH h, encS s, encMs ms, .lst (ns deep)] ts = some (.o1 ((talV (versV h (firstV h s) ms) deep).map tns), ts) := by
  have e : (talV (versV h (firstV h s) ms) deep).map tns = ((versV h (firstV h s) ms).zip deep).map fun p => tns (tl p.2 p.1) := by simp [talV]
  have ez : zipD ((versV h (firstV h s) ms).map encV) (ns deep) = ((versV h (firstV h s) ms).zip deep).map fun p => .tup [encV p.1, .int (p.2 : Nat)] := zip_map
  rw [e]
  refine FL_rt rfl rfl (bx_rt (bx_ret (bs_lc (l := (versV h (firstV h s) ms).zip deep) (enc := fun p => .tup [encV p.1, .int (p.2 : Nat)]) _ (by rw [← ez]; exact bs_zp (bs_fn (bs_cn (bs_var rfl) (bs_cn (bs_var rfl) (bs_cn (bs_var rfl) bs_nl))) (f_played ok so ro lo (.inl rfl)) cl_o2) (bs_var rfl) (by rw [fz_o2]; rfl) rfl) fun p hp => ⟨_, _, rfl, bs_bi (r := .p (tns (tl p.2 p.1))) (bs_cn (bs_slc (bs_var rfl) (bs_sm (bs_neg (bs_var rfl) rfl)) bs_nlO (slc_neg (dp p.2 (List.of_mem_zip (show (p.1, p.2) ∈ _ from hp)).2))) bs_nl) rfl, rfl⟩) (clean_map fun _ => cl_tns)))

/-! ### the law's own gone -/
theorem bs_lc0 {F : FT} {ρ : Env} {ts ts1 : Tin} {it cd elt : Tm} {own : List Nat} {tg : Tg} {α : Type} {enc : α → D} {l : List α} (hi : evI F it ρ ts = some (l.map enc, ts1)) (h : ∀ a ∈ l, ∃ ρ1, setTg (wipeE ρ own) tg (enc a) = some ρ1 ∧ ev F cd ρ1 ts1 = some (.p (.bl false), ts1)) : ev F (.lc own tg it cd elt false) ρ ts = some (.o1 [], ts1) := by
  have e := bs_lcf (elt := elt) (fun _ => false) (fun _ => D.non) hi fun a ha => by
    obtain ⟨ρ1, h1, h2⟩ := h a ha
    exact ⟨ρ1, h1, h2, fun z => by cases z⟩
  have e2 : l.filter (fun _ => false) = [] := List.filter_eq_nil_iff.mpr fun a _ => by simp
  rw [e2] at e
  exact e
def lgBody : Stm := .seq (.asg 6 false (.fn 67 (.cn (.var 0) (.cn (.var 1) (.cn (.var 2) .nl))))) (.seq (.asg 7 false (.bi .tuple (.cn (.lc [8, 9] (.many [8, 9]) (.zp (.idx (.idx (.var 0) (.var 4)) (.int 1)) (.var 5)) (.bl true) (.sub (.sub (.idx (.var 6) (.var 8)) (.int 1)) (.var 9)) false) .nl))) (.seq (.ife (.or_ (.cmp .ne (.lc [9] (.one 9) (.sq (.var 7)) (.cmp .lt (.var 9) (.int 0)) (.var 9) false) (.lst .nl)) (.cmp .ne (.bi .len (.cn (.var 5) .nl)) (.bi .len (.cn (.idx (.idx (.var 0) (.var 4)) (.int 1)) .nl)))) (.seq (.ret .non) .nil) .nil) (.seq (.asg 2 false (.add (.var 2) (.tup (.cn (.tup (.cn (.var 4) (.cn (.var 7) .nl))) .nl)))) .nil)))
theorem add_tup1 {xs : List D} {d : D} (h : xs.length ≤ 900000) : addD (.tup xs) (.tup [d]) = some (.p (.tup (xs ++ [d]))) := by
  rw [addD, if_pos]
  show xs.length + 1 ≤ 1000000
  omega
theorem lg_loop {l : Nat} {h : Hs} {s : St} {ts : Tin} {x3 x8 x9 : Option R} (ok : HsOk h) (so : StOk h s) : ∀ {sp ms : List Mv} {a b c d : Option R}, (∀ m ∈ ms, m.1 < h.length) → RunC h (cntM (lens (firstV h s)) ms) sp → ms.length + sp.length ≤ 90000 →
    ∃ a' b' c' d', forL (turn (FL (l + 2)) (.many [4, 5]) lgBody) (sp.map encM) [some (.p (encH h)), some (.p (encS s)), some (.p (encMs ms)), x3, a, b, c, d, x8, x9] ts
      = some (.nx [some (.p (encH h)), some (.p (encS s)), some (.p (encMs (goneV h s ms sp))), x3, a', b', c', d', x8, x9], ts)
  | [], ms, a, b, c, d, _, _, _ => ⟨a, b, c, d, by rw [goneV, flipV, List.append_nil]; rfl⟩
  | m :: sp, ms, a, b, c, d, hp, rc, lo => by
    obtain ⟨mo, rc⟩ := rc
    simp only [List.length_cons] at lo
    obtain ⟨f, e⟩ := at_lt mo.pl
    have fo := ok.fd f (List.mem_of_getElem? e)
    have ee := eyes_at e
    have ln := mo.ln
    rw [ee] at ln
    have cl : (cntM (lens (firstV h s)) ms).length = h.length := by rw [cntM_len, lens_first]
    have cm : cntM (lens (firstV h s)) (ms ++ [flip1 h (cntM (lens (firstV h s)) ms) m]) = bump (cntM (lens (firstV h s)) ms) m.1 := by rw [cntM_app]; rfl
    obtain ⟨a', b', c', d', ih⟩ := lg_loop (l := l) (ts := ts) (x3 := x3) (x8 := x8) (x9 := x9) ok so (sp := sp) (ms := ms ++ [flip1 h (cntM (lens (firstV h s)) ms) m]) (a := some (.p (.int (m.1 : Nat)))) (b := some (.p (tns m.2))) (c := some (.p (.lst (ns (cntM (lens (firstV h s)) ms))))) (d := some (.p (tns (flip1 h (cntM (lens (firstV h s)) ms) m).2))) (fun q hq => by
      rcases List.mem_append.mp hq with hq | hq
      · exact hp q hq
      · rw [List.mem_singleton] at hq; subst hq; exact mo.pl) (by rw [cm]; exact rc) (by simp; omega)
    refine ⟨a', b', c', d', ?_⟩
    have ef : (f.eyes.zip m.2).map (fun p => D.int (((cntM (lens (firstV h s)) ms).getD p.1 0 - 1 - p.2 : Nat) : Int)) = ns (flip1 h (cntM (lens (firstV h s)) ms) m).2 := by simp [flip1, ee, ns]
    have st : turn (FL (l + 2)) (.many [4, 5]) lgBody [some (.p (encH h)), some (.p (encS s)), some (.p (encMs ms)), x3, a, b, c, d, x8, x9] (encM m) ts
        = some (.nx [some (.p (encH h)), some (.p (encS s)), some (.p (encMs (ms ++ [flip1 h (cntM (lens (firstV h s)) ms) m]))), x3, some (.p (.int (m.1 : Nat))), some (.p (tns m.2)), some (.p (.lst (ns (cntM (lens (firstV h s)) ms)))), some (.p (tns (flip1 h (cntM (lens (firstV h s)) ms) m).2)), x8, x9], ts) := by
      have e2 : encMs (ms ++ [flip1 h (cntM (lens (firstV h s)) ms) m]) = .tup (ms.map encM ++ [.tup [.int (m.1 : Nat), tns (flip1 h (cntM (lens (firstV h s)) ms) m).2]]) := by rw [encMs, List.map_append]; rfl
      rw [e2]
      refine bturn rfl (bx_seq (bx_asg (bs_fn (bs_cn (bs_var rfl) (bs_cn (bs_var rfl) (bs_cn (bs_var rfl) bs_nl))) (f_lcounts so hp) cl_ns) rfl)
        (bx_seq (bx_asg (r := .p (tns (flip1 h (cntM (lens (firstV h s)) ms) m).2)) (ts1 := ts) (bs_bi (ts1 := ts) (ds := [.lst (ns (flip1 h (cntM (lens (firstV h s)) ms) m).2)]) (bs_cn (x := .o1 (ns (flip1 h (cntM (lens (firstV h s)) ms) m).2)) (ts1 := ts) ?_ bs_nl) rfl) rfl)
        (bx_seq (bx_ifF (bs_orF (bs_cmp (x := .o1 []) (bs_lc0 (l := (flip1 h (cntM (lens (firstV h s)) ms) m).2) (enc := fun (n : Nat) => .int (n : Int)) (bs_sq (bs_var rfl) rfl) fun v hv => ⟨_, rfl, bs_cmp (bs_var rfl) bs_int ?_⟩) (bs_lst bs_nl (by decide)) rfl) (bs_cmp (bs_bi (bs_cn (bs_var rfl) bs_nl) len_n) (bs_bi (bs_cn (bs_idx (bs_idx (bs_var rfl) (bs_var rfl) (idx_h e)) bs_int fe) bs_nl) len_n) (ne_len ln))) bx_nil)
        (bx_seq (bx_asg (bs_add (bs_var rfl) (bs_tup (bs_cn (bs_tup (bs_cn (bs_var rfl) (bs_cn (bs_var rfl) bs_nl)) (show 2 ≤ 1000000 by omega)) bs_nl) (show 1 ≤ 1000000 by omega)) (add_tup1 (by rw [List.length_map]; omega))) rfl) bx_nil))))
      · rw [← ef]
        refine bs_lc (l := f.eyes.zip m.2) (enc := fun p => .tup [.int (p.1 : Nat), .int (p.2 : Nat)]) _ ?_ fun p hp => ?_
        · rw [← zip_nn]
          exact bs_zp (bs_idx (bs_idx (bs_var rfl) (bs_var rfl) (idx_h e)) bs_int fe) (bs_var rfl) rfl rfl
        have hb := mo.bd p (by rw [ee]; exact hp)
        have hq := fo.eh _ (List.of_mem_zip (show (p.1, p.2) ∈ _ from hp)).1
        refine ⟨_, _, rfl, bs_sub (bs_sub (bs_idx (bs_var rfl) (bs_var rfl) (idx_ln (getD_at (by rw [cl]; exact hq) (d := 0)))) bs_int rfl) (bs_var rfl) rfl, ?_⟩
        show D.int _ = D.int _
        congr 1
        omega
      · show some (decide ((v : Int) < 0)) = _
        simp
    show forL _ (encM m :: sp.map encM) _ _ = _
    simp only [forL, st]
    have eg : goneV h s ms (m :: sp) = goneV h s (ms ++ [flip1 h (cntM (lens (firstV h s)) ms) m]) sp := by
      rw [goneV, goneV, cm, flipV]; simp
    rw [eg]
    exact ih
theorem f_lgone {l : Nat} {h : Hs} {s : St} {ms sp : List Mv} {ts : Tin} (ok : HsOk h) (so : StOk h s) (hp : ∀ m ∈ ms, m.1 < h.length) (rc : RunC h (cntM (lens (firstV h s)) ms) sp) (lo : ms.length + sp.length ≤ 90000) : FL (l + 3) 68 [encH h, encS s, encMs ms, encMs sp] ts = some (.p (encMs (goneV h s ms sp)), ts) := by
  obtain ⟨a', b', c', d', e⟩ := lg_loop (l := l) (ts := ts) (x3 := some (.p (encMs sp))) (x8 := none) (x9 := none) ok so (sp := sp) (ms := ms) (a := none) (b := none) (c := none) (d := none) hp rc lo
  exact FL_rt rfl rfl (bx_seq (bx_for (bs_sq (bs_var rfl) rfl) e) (bx_rt (bx_ret (bs_var rfl) cl_ms)))
end Lt.Mt

namespace Lt.Mt
open PySem

/-! ### the greatest -/
def mxN (l : List Nat) : Nat := l.foldl max 0
theorem maxI_n : ∀ {l : List Nat} {m : Nat}, maxI (m : Nat) (nIs l) = ((l.foldl max m : Nat) : Int)
  | [], _ => rfl
  | a :: l, m => by
    have e : maxI (m : Nat) (nIs (a :: l)) = maxI (if ((m : Nat) : Int) < (a : Nat) then ((a : Nat) : Int) else (m : Nat)) (nIs l) := rfl
    have e2 : (if ((m : Nat) : Int) < (a : Nat) then ((a : Nat) : Int) else (m : Nat)) = ((max m a : Nat) : Int) := by split <;> omega
    rw [e, e2, maxI_n]; rfl
theorem mx_le {m : Nat} : ∀ {l : List Nat} {k : Nat}, k ≤ m → (∀ d ∈ l, d ≤ m) → l.foldl max k ≤ m
  | [], _, h, _ => h
  | a :: l, k, h, h2 => mx_le (l := l) (k := max k a) (Nat.max_le.mpr ⟨h, h2 a (by simp)⟩) fun d hd => h2 d (by simp [hd])
theorem mx_ge0 : ∀ {l : List Nat} {k : Nat}, k ≤ l.foldl max k
  | [], _ => Nat.le_refl _
  | a :: l, k => Nat.le_trans (Nat.le_max_left k a) (mx_ge0 (l := l) (k := max k a))
theorem mx_ge : ∀ {l : List Nat} {k d : Nat}, d ∈ l → d ≤ l.foldl max k
  | [], _, _, h => by simp at h
  | a :: l, k, d, h => by
    rcases List.mem_cons.mp h with rfl | h
    · exact Nat.le_trans (Nat.le_max_right k d) (mx_ge0 (l := l) (k := max k d))
    · exact mx_ge (l := l) (k := max k a) h
theorem maxl_n {l : List Nat} : maxlD [.lst (D.int 0 :: ns l)] = some (.p (.int (mxN l : Nat))) := by
  have e : asInts (D.int 0 :: ns l) = some ((0 : Int) :: nIs l) := by
    show (match asInts (ns l) with
    | some is => some ((0 : Int) :: is)
    | none => none) = _
    rw [asInts_ns2]
  show (match asInts (D.int 0 :: ns l) with
    | some (i :: r) => some (R.p (.int (maxI i r)))
    | _ => none) = _
  rw [e]
  show some (R.p (.int (maxI ((0 : Nat) : Int) (nIs l)))) = _
  rw [maxI_n]; rfl

/-! ### rounds of moves -/
def mt1 : Stm := .seq (.asg 10 false (.fn 67 (.cn (.var 0) (.cn (.var 1) (.cn (.var 5) .nl))))) (.seq (.asg 5 false (.add (.var 5) (.tup (.cn (.tup (.cn (.var 8) (.cn (.bi .tuple (.cn (.lc [11] (.one 11) (.sq (.idx (.idx (.var 0) (.var 8)) (.int 1))) (.bl true) (.sub (.idx (.var 10) (.var 11)) (.int 1)) false) .nl)) .nl))) .nl)))) .nil)
theorem mt_in {l : Nat} {h : Hs} {s : St} {ts : Tin} {x2 x3 x4 x6 x7 x9 x11 : Option R} (ok : HsOk h) (so : StOk h s) : ∀ {js : List Nat} {ms : List Mv} {a b : Option R}, (∀ j ∈ js, j < h.length) → RunOk h (firstV h s) ms → ms.length + js.length ≤ 90000 →
    ∃ a' b' ms', forL (turn (FL (l + 2)) (.one 8) mt1) (ns js) [some (.p (encH h)), some (.p (encS s)), x2, x3, x4, some (.p (encMs ms)), x6, x7, a, x9, b, x11] ts
      = some (.nx [some (.p (encH h)), some (.p (encS s)), x2, x3, x4, some (.p (encMs ms')), x6, x7, a', x9, b', x11], ts) ∧ RunOk h (firstV h s) ms' ∧ ms'.length = ms.length + js.length ∧ (∀ i, (cntM (lens (firstV h s)) ms).getD i 0 ≤ (cntM (lens (firstV h s)) ms').getD i 0) ∧ ∀ i ∈ js, (cntM (lens (firstV h s)) ms).getD i 0 + 1 ≤ (cntM (lens (firstV h s)) ms').getD i 0
  | [], ms, a, b, _, ro, _ => ⟨a, b, ms, rfl, ro, rfl, fun _ => Nat.le_refl _, by simp⟩
  | j :: js, ms, a, b, hj, ro, lo => by
    simp only [List.length_cons] at lo
    have hj0 := hj j (by simp)
    obtain ⟨f, e⟩ := at_lt hj0
    have fo := ok.fd f (List.mem_of_getElem? e)
    have ee := eyes_at e
    have cl : (cntM (lens (firstV h s)) ms).length = h.length := by rw [cntM_len, lens_first]
    have cp : ∀ i, i < h.length → 0 < (cntM (lens (firstV h s)) ms).getD i 0 := fun i hi => Nat.lt_of_lt_of_le (first_pos hi) cntM_ge
    have mo : MvC h (cntM (lens (firstV h s)) ms) (j, newV h (cntM (lens (firstV h s)) ms) j) := by
      refine ⟨hj0, by simp [newV], fun p hp => ?_⟩
      replace hp : p ∈ (eyesOf h j).zip ((eyesOf h j).map fun e => (cntM (lens (firstV h s)) ms).getD e 0 - 1) := hp
      obtain ⟨i, hi, e4⟩ := List.mem_iff_getElem.mp hp
      simp only [List.length_zip, List.length_map] at hi
      rw [List.getElem_zip, List.getElem_map] at e4
      have := cp ((eyesOf h j)[i]'(by omega)) (eyes_lt ok (List.getElem_mem _))
      rw [← e4]
      simp only
      omega
    have cm : cntM (lens (firstV h s)) (ms ++ [(j, newV h (cntM (lens (firstV h s)) ms) j)]) = bump (cntM (lens (firstV h s)) ms) j := by rw [cntM_app]; rfl
    obtain ⟨a', b', ms', ih, ro2, ln2, g1, g2⟩ := mt_in (l := l) (ts := ts) (x2 := x2) (x3 := x3) (x4 := x4) (x6 := x6) (x7 := x7) (x9 := x9) (x11 := x11) ok so (js := js) (ms := ms ++ [(j, newV h (cntM (lens (firstV h s)) ms) j)]) (a := some (.p (.int (j : Nat)))) (b := some (.p (.lst (ns (cntM (lens (firstV h s)) ms))))) (fun q hq => hj q (by simp [hq])) (runOk_app2 ro ⟨mo, trivial⟩) (by simp; omega)
    rw [cm] at g1 g2
    refine ⟨a', b', ms', ?_, ro2, by rw [ln2]; simp; omega, fun i => Nat.le_trans bump_ge (g1 i), fun i hi => ?_⟩
    · have ef : ns (newV h (cntM (lens (firstV h s)) ms) j) = f.eyes.map fun e => D.int (((cntM (lens (firstV h s)) ms).getD e 0 - 1 : Nat) : Int) := by simp [newV, ee, ns]
      have st : turn (FL (l + 2)) (.one 8) mt1 [some (.p (encH h)), some (.p (encS s)), x2, x3, x4, some (.p (encMs ms)), x6, x7, a, x9, b, x11] (.int (j : Nat)) ts
          = some (.nx [some (.p (encH h)), some (.p (encS s)), x2, x3, x4, some (.p (encMs (ms ++ [(j, newV h (cntM (lens (firstV h s)) ms) j)]))), x6, x7, some (.p (.int (j : Nat))), x9, some (.p (.lst (ns (cntM (lens (firstV h s)) ms)))), x11], ts) := by
        have e2 : encMs (ms ++ [(j, newV h (cntM (lens (firstV h s)) ms) j)]) = .tup (ms.map encM ++ [.tup [.int (j : Nat), tns (newV h (cntM (lens (firstV h s)) ms) j)]]) := by rw [encMs, List.map_append]; rfl
        rw [e2]
        refine bturn rfl (bx_seq (bx_asg (bs_fn (bs_cn (bs_var rfl) (bs_cn (bs_var rfl) (bs_cn (bs_var rfl) bs_nl))) (f_lcounts so (run_pl ro)) cl_ns) rfl)
          (bx_seq (bx_asg (bs_add (bs_var rfl) (bs_tup (bs_cn (bs_tup (bs_cn (bs_var rfl) (bs_cn (bs_bi (r := .p (tns (newV h (cntM (lens (firstV h s)) ms) j))) (ts1 := ts) (ds := [.lst (ns (newV h (cntM (lens (firstV h s)) ms) j))]) (bs_cn (x := .o1 (ns (newV h (cntM (lens (firstV h s)) ms) j))) (ts1 := ts) ?_ bs_nl) rfl) bs_nl)) (show 2 ≤ 1000000 by omega)) bs_nl) (show 1 ≤ 1000000 by omega)) (add_tup1 (by rw [List.length_map]; omega))) rfl) bx_nil))
        rw [ef]
        refine bs_lc (l := f.eyes) (enc := fun (n : Nat) => .int (n : Int)) _ (bs_sq (bs_idx (bs_idx (bs_var rfl) (bs_var rfl) (idx_h e)) bs_int fe) rfl) fun p hp => ⟨_, _, rfl, bs_sub (bs_idx (bs_var rfl) (bs_var rfl) (idx_ln (getD_at (by rw [cl]; exact fo.eh p hp) (d := 0)))) bs_int rfl, ?_⟩
        have := cp p (fo.eh p hp)
        show D.int _ = D.int _
        congr 1
        omega
      show forL _ (D.int (j : Int) :: ns js) _ _ = _
      simp only [forL, st]
      exact ih
    · by_cases hij : i = j
      · subst hij
        refine Nat.le_trans ?_ (g1 i)
        rw [bump, getD_set (by rw [cl]; exact hj0), if_pos rfl]
        omega
      · rcases List.mem_cons.mp hi with z | z
        · exact absurd z hij
        · exact Nat.le_trans (Nat.add_le_add_right bump_ge 1) (g2 i z)
def mt2 : Stm := .seq (.for_ (.one 8) (.rng (.bi .len (.cn (.var 0) .nl))) mt1) .nil
theorem mt_out {l : Nat} {h : Hs} {s : St} {ts : Tin} {x2 x3 x6 x7 x9 x11 : Option R} (ok : HsOk h) (so : StOk h s) : ∀ {q : List D} {ms : List Mv} {a b c : Option R}, RunOk h (firstV h s) ms → ms.length + q.length * 8 ≤ 90000 →
    ∃ a' b' c' ms', forL (turn (FL (l + 2)) (.one 4) mt2) q [some (.p (encH h)), some (.p (encS s)), x2, x3, c, some (.p (encMs ms)), x6, x7, a, x9, b, x11] ts
      = some (.nx [some (.p (encH h)), some (.p (encS s)), x2, x3, c', some (.p (encMs ms')), x6, x7, a', x9, b', x11], ts) ∧ RunOk h (firstV h s) ms' ∧ ms'.length ≤ ms.length + q.length * 8 ∧ ∀ i, i < h.length → (cntM (lens (firstV h s)) ms).getD i 0 + q.length ≤ (cntM (lens (firstV h s)) ms').getD i 0
  | [], ms, a, b, c, ro, _ => ⟨a, b, c, ms, rfl, ro, by simp, fun _ _ => by simp⟩
  | d :: q, ms, a, b, c, ro, lo => by
    simp only [List.length_cons] at lo
    have l8 := ok.l8
    obtain ⟨a1, b1, ms1, e1, ro1, ln1, _, g1⟩ := mt_in (l := l) (ts := ts) (x2 := x2) (x3 := x3) (x4 := some (.p d)) (x6 := x6) (x7 := x7) (x9 := x9) (x11 := x11) ok so (js := List.range h.length) (ms := ms) (a := a) (b := b) (fun j hj => List.mem_range.mp hj) ro (by rw [List.length_range]; omega)
    rw [List.length_range] at ln1
    obtain ⟨a', b', c', ms', ih, ro2, ln2, g2⟩ := mt_out (l := l) (ts := ts) (x2 := x2) (x3 := x3) (x6 := x6) (x7 := x7) (x9 := x9) (x11 := x11) ok so (q := q) (ms := ms1) (a := a1) (b := b1) (c := some (.p d)) ro1 (by omega)
    refine ⟨a', b', c', ms', ?_, ro2, by simp only [List.length_cons]; omega, fun i hi => ?_⟩
    · have st : turn (FL (l + 2)) (.one 4) mt2 [some (.p (encH h)), some (.p (encS s)), x2, x3, c, some (.p (encMs ms)), x6, x7, a, x9, b, x11] d ts = some (.nx [some (.p (encH h)), some (.p (encS s)), x2, x3, some (.p d), some (.p (encMs ms1)), x6, x7, a1, x9, b1, x11], ts) :=
        bturn rfl (bx_seq (bx_for (bs_rng (bs_bi (bs_cn (bs_var rfl) bs_nl) len_h) (rngD_nat (by omega))) e1) bx_nil)
      simp only [forL, st]
      exact ih
    · have h1 := g1 i (List.mem_range.mpr hi)
      have h2 := g2 i hi
      simp only [List.length_cons]
      omega

/-! ### coming round -/
def itG (h : Hs) (s : St) (sp : List Mv) (ms : List Mv) : Nat → List Mv
  | 0 => ms
  | i + 1 => goneV h s (itG h s sp ms i) sp
theorem itG_cnt {h : Hs} {s : St} {sp ms : List Mv} {j : Nat} : ∀ {i : Nat}, (cntM (lens (firstV h s)) ms).getD j 0 ≤ (cntM (lens (firstV h s)) (itG h s sp ms i)).getD j 0
  | 0 => Nat.le_refl _
  | i + 1 => by
    rw [itG, gone_cnt]
    exact Nat.le_trans (itG_cnt (i := i)) cntM_ge
theorem itG_len {h : Hs} {s : St} {sp ms : List Mv} : ∀ {i : Nat}, (itG h s sp ms i).length = ms.length + i * sp.length
  | 0 => by simp [itG]
  | i + 1 => by rw [itG, gone_len, itG_len, Nat.add_mul]; omega
structure MtOk (h : Hs) (s : St) (sp ms : List Mv) : Prop where
  ro : RunOk h (firstV h s) ms
  hs : ∀ m ∈ sp, SpOk h m
  dp : ∀ j, j < h.length → (depV h (ones h) sp).getD j 0 ≤ (cntM (lens (firstV h s)) ms).getD j 0
theorem itG_rc {h : Hs} {s : St} {sp ms : List Mv} (ok : HsOk h) (mo : MtOk h s sp ms) {i : Nat} : RunC h (cntM (lens (firstV h s)) (itG h s sp ms i)) sp :=
  runC_deep ok mo.hs fun j hj => Nat.le_trans (mo.dp j hj) itG_cnt
theorem itG_ro {h : Hs} {s : St} {sp ms : List Mv} (ok : HsOk h) (mo : MtOk h s sp ms) : ∀ {i : Nat}, RunOk h (firstV h s) (itG h s sp ms i)
  | 0 => mo.ro
  | i + 1 => gone_ok (itG_ro ok mo) (itG_rc ok mo)
theorem itG_it {h : Hs} {s : St} {sp ms : List Mv} {i : Nat} : ∀ {k : Nat}, itG h s sp ms (i + k) = itG h s sp (itG h s sp ms i) k
  | 0 => rfl
  | k + 1 => by rw [← Nat.add_assoc, itG, itG, itG_it]
def tlV (h : Hs) (s : St) (sp ms : List Mv) : List (List Nat) := talV (versV h (firstV h s) ms) (depV h (ones h) sp)
theorem findD_any {d : D} : ∀ {ls : List D} {n : Nat}, ls.any (fun z => deq z d) = true → ∃ i x, findD d ls n = some (n + i) ∧ ls[i]? = some x ∧ deq x d = true
  | [], _, h => by simp at h
  | a :: ls, n, h => by
    by_cases e : deq a d = true
    · exact ⟨0, a, by simp [findD, e], rfl, e⟩
    · simp only [List.any_cons, e, Bool.false_or] at h
      obtain ⟨i, x, e1, e2, e3⟩ := findD_any (n := n + 1) h
      refine ⟨i + 1, x, ?_, by simpa using e2, e3⟩
      simp only [findD]
      rw [if_neg e, e1]
      congr 1; omega
theorem ipd_tl {A : List (List Nat)} : ipd 2 (.lst (A.map tns)) = true := ipd_l (enc := tns) fun a _ => ipd_tns (k := 0)
theorem deq_lt {A B : List (List Nat)} (h : deq (.lst (A.map tns)) (.lst (B.map tns)) = true) : A = B := by
  have := (deq_iff (k := 2) ipd_tl ipd_tl).mp h
  injection this with this
  exact (map_inj tns_inj).mp this
def mets (h : Hs) (s : St) (sp ms : List Mv) (i : Nat) : List D := (List.range i).map fun t => D.lst ((tlV h s sp (itG h s sp ms t)).map tns)
def ways (h : Hs) (s : St) (sp ms : List Mv) (i : Nat) : List D := (List.range i).map fun t => encMs (itG h s sp ms t)
theorem range_snoc {β : Type} {f : Nat → β} {i : Nat} : (List.range (i + 1)).map f = (List.range i).map f ++ [f i] := by rw [List.range_succ, List.map_append]; rfl
theorem add_l1 {xs : List D} {d : D} (h : xs.length ≤ 900000) : addD (.lst xs) (.lst [d]) = some (.o1 (xs ++ [d])) := by
  rw [addD, if_pos]
  show xs.length + 1 ≤ 1000000
  omega
def mt3 : Stm := .seq (.asg 9 false (.fn 70 (.cn (.var 0) (.cn (.var 1) (.cn (.var 5) (.cn (.var 2) .nl)))))) (.seq (.ife (.cmp .in_ (.var 9) (.var 6)) (.seq (.ret (.tup (.cn (.idx (.var 7) (.mix (.var 6) (.var 9))) (.cn (.sub (.var 4) (.mix (.var 6) (.var 9))) .nl)))) .nil) .nil) (.seq (.par 6 7 false false (.add (.var 6) (.lst (.cn (.var 9) .nl))) (.add (.var 7) (.lst (.cn (.var 5) .nl)))) (.seq (.asg 5 false (.fn 68 (.cn (.var 0) (.cn (.var 1) (.cn (.var 5) (.cn (.var 3) .nl)))))) .nil)))
theorem mt_round {l : Nat} {h : Hs} {s : St} {sp ms : List Mv} {ts : Tin} {x8 x10 x11 : Option R} (ok : HsOk h) (so : StOk h s) (mo : MtOk h s sp ms) : ∀ {c i : Nat} {a b : Option R}, i + c ≤ 6 → ms.length + 7 * sp.length ≤ 90000 →
    (∃ ρ, forL (turn (FL (l + 4)) (.one 4) mt3) (ns (List.range' i c)) [some (.p (encH h)), some (.p (encS s)), some (.p (.lst (ns (depV h (ones h) sp)))), some (.p (encMs sp)), a, some (.p (encMs (itG h s sp ms i))), some (.p (.lst (mets h s sp ms i))), some (.p (.lst (ways h s sp ms i))), x8, b, x10, x11] ts = some (.nx ρ, ts)) ∨
    ∃ t k, 1 ≤ k ∧ t + k ≤ 5 ∧ tlV h s sp (itG h s sp ms t) = tlV h s sp (itG h s sp ms (t + k)) ∧ forL (turn (FL (l + 4)) (.one 4) mt3) (ns (List.range' i c)) [some (.p (encH h)), some (.p (encS s)), some (.p (.lst (ns (depV h (ones h) sp)))), some (.p (encMs sp)), a, some (.p (encMs (itG h s sp ms i))), some (.p (.lst (mets h s sp ms i))), some (.p (.lst (ways h s sp ms i))), x8, b, x10, x11] ts = some (.rt (.p (.tup [encMs (itG h s sp ms t), .int (k : Nat)])), ts)
  | 0, i, a, b, _, _ => .inl ⟨_, rfl⟩
  | c + 1, i, a, b, hi, lo => by
    have il : (itG h s sp ms i).length + sp.length ≤ 90000 := by
      rw [itG_len]
      have : i * sp.length ≤ 5 * sp.length := Nat.mul_le_mul_right _ (by omega)
      omega
    have dp : ∀ d ∈ depV h (ones h) sp, 0 < d := fun d hd => by
      obtain ⟨j, hj, e⟩ := List.mem_iff_getElem.mp hd
      rw [depV_len, ones_len] at hj
      have := depV_pos (sp := sp) hj
      rw [List.getD_eq_getElem?_getD, List.getElem?_eq_getElem (by rw [depV_len, ones_len]; exact hj), e] at this
      exact this
    have e9 := f_tails (l := l) (ts := ts) ok so (itG_ro ok mo (i := i)) (by omega) dp
    have e9' : ex (FL (l + 4)) (.asg 9 false (.fn 70 (.cn (.var 0) (.cn (.var 1) (.cn (.var 5) (.cn (.var 2) .nl)))))) [some (.p (encH h)), some (.p (encS s)), some (.p (.lst (ns (depV h (ones h) sp)))), some (.p (encMs sp)), some (.p (.int (i : Nat))), some (.p (encMs (itG h s sp ms i))), some (.p (.lst (mets h s sp ms i))), some (.p (.lst (ways h s sp ms i))), x8, b, x10, x11] ts
        = some (.nx [some (.p (encH h)), some (.p (encS s)), some (.p (.lst (ns (depV h (ones h) sp)))), some (.p (encMs sp)), some (.p (.int (i : Nat))), some (.p (encMs (itG h s sp ms i))), some (.p (.lst (mets h s sp ms i))), some (.p (.lst (ways h s sp ms i))), x8, some (.p (.lst ((tlV h s sp (itG h s sp ms i)).map tns))), x10, x11], ts) :=
      bx_asg (bs_fn (bs_cn (bs_var rfl) (bs_cn (bs_var rfl) (bs_cn (bs_var rfl) (bs_cn (bs_var rfl) bs_nl)))) e9 (clean_map fun _ => cl_tns)) rfl
    have okA : (D.lst ((tlV h s sp (itG h s sp ms i)).map tns)).ok = true := okD (k := 2) ipd_tl (by omega)
    have okB : (D.lst (mets h s sp ms i)).ok = true := okD (k := 3) (ipd_l (enc := fun t => D.lst ((tlV h s sp (itG h s sp ms t)).map tns)) fun a _ => ipd_tl) (by omega)
    have ein : cmpD .in_ (.lst ((tlV h s sp (itG h s sp ms i)).map tns)) (.lst (mets h s sp ms i)) = some ((mets h s sp ms i).any fun z => deq z (.lst ((tlV h s sp (itG h s sp ms i)).map tns))) := by
      show (if (D.lst ((tlV h s sp (itG h s sp ms i)).map tns)).ok && (D.lst (mets h s sp ms i)).ok then some ((mets h s sp ms i).any fun z => deq z (.lst ((tlV h s sp (itG h s sp ms i)).map tns))) else none) = _
      rw [okA, okB]; rfl
    show (∃ ρ, forL _ (D.int (i : Int) :: ns (List.range' (i + 1) c)) _ _ = _) ∨ _
    have er : ns (List.range' i (c + 1)) = D.int (i : Int) :: ns (List.range' (i + 1) c) := rfl
    rw [er]
    cases hin : (mets h s sp ms i).any fun z => deq z (.lst ((tlV h s sp (itG h s sp ms i)).map tns)) with
    | true =>
      rw [hin] at ein
      obtain ⟨t, x, f1, f2, f3⟩ := findD_any (n := 0) hin
      have tlt : t < i := by
        have := (List.getElem?_eq_some_iff.mp f2).1
        simpa [mets] using this
      have ex : x = D.lst ((tlV h s sp (itG h s sp ms t)).map tns) := by
        rw [mets, List.getElem?_map, List.getElem?_range tlt] at f2
        exact (Option.some.inj f2).symm
      subst ex
      have et := deq_lt f3
      rw [Nat.zero_add] at f1
      refine .inr ⟨t, i - t, by omega, by omega, by rw [et]; congr 2; omega, ?_⟩
      have emx : mixD (.lst (mets h s sp ms i)) (.lst ((tlV h s sp (itG h s sp ms i)).map tns)) = some (.p (.int (t : Nat))) := by
        show (if (D.lst ((tlV h s sp (itG h s sp ms i)).map tns)).ok && (D.lst (mets h s sp ms i)).ok then (findD (.lst ((tlV h s sp (itG h s sp ms i)).map tns)) (mets h s sp ms i) 0).map fun (n : Nat) => R.p (.int (n : Int)) else none) = _
        rw [okA, okB, f1]; rfl
      have ew : idxD ts (.lst (ways h s sp ms i)) (.int (t : Nat)) = some (encMs (itG h s sp ms t)) := idx_l (enc := fun t => encMs (itG h s sp ms t)) (List.getElem?_range tlt)
      have ek : ((i : Nat) : Int) - (t : Nat) = ((i - t : Nat) : Int) := by omega
      have st : turn (FL (l + 4)) (.one 4) mt3 [some (.p (encH h)), some (.p (encS s)), some (.p (.lst (ns (depV h (ones h) sp)))), some (.p (encMs sp)), a, some (.p (encMs (itG h s sp ms i))), some (.p (.lst (mets h s sp ms i))), some (.p (.lst (ways h s sp ms i))), x8, b, x10, x11] (.int (i : Nat)) ts
          = some (.rt (.p (.tup [encMs (itG h s sp ms t), .int ((i : Nat) - (t : Nat) : Int)])), ts) :=
        bturn rfl (bx_seq e9' (bx_rt (bx_ifT (bs_cmp (bs_var rfl) (bs_var rfl) ein) (bx_rt (bx_ret (bs_tup (bs_cn (bs_idx (bs_var rfl) (bs_mix (bs_var rfl) (bs_var rfl) emx) ew) (bs_cn (bs_sub (r := .p (.int ((i : Nat) - (t : Nat) : Int))) (bs_var rfl) (bs_mix (bs_var rfl) (bs_var rfl) emx) rfl) bs_nl)) (show 2 ≤ 1000000 by omega)) (nls_cons cl_ms rfl))))))
      rw [ek] at st
      simp only [forL, st]
    | false =>
      rw [hin] at ein
      have st : turn (FL (l + 4)) (.one 4) mt3 [some (.p (encH h)), some (.p (encS s)), some (.p (.lst (ns (depV h (ones h) sp)))), some (.p (encMs sp)), a, some (.p (encMs (itG h s sp ms i))), some (.p (.lst (mets h s sp ms i))), some (.p (.lst (ways h s sp ms i))), x8, b, x10, x11] (.int (i : Nat)) ts
          = some (.nx [some (.p (encH h)), some (.p (encS s)), some (.p (.lst (ns (depV h (ones h) sp)))), some (.p (encMs sp)), some (.p (.int (i : Nat))), some (.p (encMs (itG h s sp ms (i + 1)))), some (.p (.lst (mets h s sp ms (i + 1)))), some (.p (.lst (ways h s sp ms (i + 1)))), x8, some (.p (.lst ((tlV h s sp (itG h s sp ms i)).map tns))), x10, x11], ts) := by
        have z1 : mets h s sp ms (i + 1) = mets h s sp ms i ++ [.lst ((tlV h s sp (itG h s sp ms i)).map tns)] := range_snoc
        have z2 : ways h s sp ms (i + 1) = ways h s sp ms i ++ [encMs (itG h s sp ms i)] := range_snoc
        rw [z1, z2]
        exact bturn rfl (bx_seq e9' (bx_seq (bx_ifF (bs_cmp (bs_var rfl) (bs_var rfl) ein) bx_nil) (bx_seq (bx_par (bs_add (bs_var rfl) (bs_lst (bs_cn (bs_var rfl) bs_nl) (show 1 ≤ 1000000 by omega)) (add_l1 (by simp [mets]; omega))) (bs_add (bs_var rfl) (bs_lst (bs_cn (bs_var rfl) bs_nl) (show 1 ≤ 1000000 by omega)) (add_l1 (by simp [ways]; omega))) rfl rfl) (bx_seq (bx_asg (bs_fn (bs_cn (bs_var rfl) (bs_cn (bs_var rfl) (bs_cn (bs_var rfl) (bs_cn (bs_var rfl) bs_nl)))) (f_lgone ok so (run_pl (itG_ro ok mo)) (itG_rc ok mo) il) cl_ms) rfl) bx_nil))))
      simp only [forL, st]
      exact mt_round ok so mo (c := c) (i := i + 1) (a := some (.p (.int (i : Nat)))) (b := some (.p (.lst ((tlV h s sp (itG h s sp ms i)).map tns)))) (by omega) lo
theorem f_met {l : Nat} {h : Hs} {s : St} {sp : List Mv} {ts : Tin} (ok : HsOk h) (so : StOk h s) (hs : ∀ m ∈ sp, SpOk h m) (hd : ∀ d ∈ depV h (ones h) sp, d ≤ 1000) (ls : sp.length ≤ 1000) :
    FL (l + 5) 72 [encH h, encS s, .lst (ns (depV h (ones h) sp)), encMs sp] ts = some (.p .non, ts) ∨ ∃ ms k, FL (l + 5) 72 [encH h, encS s, .lst (ns (depV h (ones h) sp)), encMs sp] ts = some (.p (.tup [encMs ms, .int (k : Nat)]), ts) ∧ MtOk h s sp ms ∧ 1 ≤ k ∧ k ≤ 5 ∧ ms.length ≤ 20000 ∧ tlV h s sp ms = tlV h s sp (itG h s sp ms k) := by
  have l8 := ok.l8
  have mb : mxN (depV h (ones h) sp) ≤ 1000 := mx_le (by omega) hd
  obtain ⟨a1, b1, c1, ms, e1, ro, ln, cg⟩ := mt_out (l := l + 2) (ts := ts) (x2 := some (.p (.lst (ns (depV h (ones h) sp))))) (x3 := some (.p (encMs sp))) (x6 := some (.p (.lst []))) (x7 := some (.p (.lst []))) (x9 := none) (x11 := none) ok so (q := ns (List.range (mxN (depV h (ones h) sp)))) (ms := []) (a := none) (b := none) (c := none) trivial (by simp; omega)
  have mo : MtOk h s sp ms := by
    refine ⟨ro, hs, fun j hj => ?_⟩
    have h1 := cg j hj
    rw [ns_len, List.length_range] at h1
    have h2 : (depV h (ones h) sp).getD j 0 ≤ mxN (depV h (ones h) sp) := mx_ge (getD_mem (by rw [depV_len, ones_len]; exact hj))
    omega
  have e0 : addD (.lst [.int 0]) (.lst (ns (depV h (ones h) sp))) = some (.o1 (.int 0 :: ns (depV h (ones h) sp))) := by
    rw [addD, if_pos]
    · rfl
    · show 1 + (ns _).length ≤ 1000000
      rw [ns_len, depV_len, ones_len]; omega
  rw [ns_len, List.length_range, List.length_nil] at ln
  rcases mt_round (l := l) (ts := ts) (x8 := a1) (x10 := b1) (x11 := none) ok so mo (c := 6) (i := 0) (a := c1) (b := none) (by omega) (by omega) with ⟨ρ, e2⟩ | ⟨t, k, hk1, hk2, et, e2⟩
  · refine .inl ?_
    exact FL_rt rfl rfl (bx_seq (bx_tri (bs_tup bs_nl (by decide)) (bs_lst bs_nl (by decide)) (bs_lst bs_nl (by decide)) rfl rfl rfl) (bx_seq (bx_for (bs_rng (bs_bi (bs_cn (bs_add (bs_lst (bs_cn bs_int bs_nl) (show 1 ≤ 1000000 by omega)) (bs_var rfl) e0) bs_nl) maxl_n) (rngD_nat (by omega))) e1) (bx_seq (bx_for (bs_rng bs_int (rngD_nat (n := 6) (by omega))) e2) (bx_rt (bx_ret bs_non rfl)))))
  · refine .inr ⟨itG h s sp ms t, k, ?_, ⟨itG_ro ok mo, hs, fun j hj => Nat.le_trans (mo.dp j hj) itG_cnt⟩, hk1, by omega, ?_, by rw [← itG_it]; exact et⟩
    · exact FL_rt rfl rfl (bx_seq (bx_tri (bs_tup bs_nl (by decide)) (bs_lst bs_nl (by decide)) (bs_lst bs_nl (by decide)) rfl rfl rfl) (bx_seq (bx_for (bs_rng (bs_bi (bs_cn (bs_add (bs_lst (bs_cn bs_int bs_nl) (show 1 ≤ 1000000 by omega)) (bs_var rfl) e0) bs_nl) maxl_n) (rngD_nat (by omega))) e1) (bx_rt (bx_for (bs_rng bs_int (rngD_nat (n := 6) (by omega))) e2))))
    · rw [itG_len]
      have : t * sp.length ≤ 5 * sp.length := Nat.mul_le_mul_right _ (by omega)
      omega
end Lt.Mt

namespace Lt.Mt
open PySem

/-! ### two houses side by side -/
theorem getD_l {α : Type} {a b : List α} {i : Nat} {d : α} (h : i < a.length) : (a ++ b).getD i d = a.getD i d := by
  simp only [List.getD_eq_getElem?_getD, List.getElem?_append_left h]
theorem getD_r {α : Type} {a b : List α} {i n : Nat} {d : α} (h : a.length = n) : (a ++ b).getD (i + n) d = b.getD i d := by
  subst h
  simp only [List.getD_eq_getElem?_getD, List.getElem?_append_right (Nat.le_add_left _ _), Nat.add_sub_cancel]
theorem set_l {α : Type} {a b : List α} {i : Nat} {x : α} (h : i < a.length) : (a ++ b).set i x = a.set i x ++ b := by
  rw [List.set_append_left _ _ h]
theorem set_r {α : Type} {a b : List α} {i n : Nat} {x : α} (h : a.length = n) : (a ++ b).set (i + n) x = a ++ b.set i x := by
  subst h
  rw [List.set_append_right _ _ (Nat.le_add_left _ _), Nat.add_sub_cancel]
section
variable {h g : Hs} {A B : List (List Nat)} {x y : List Nat}
theorem eyes_l {j : Nat} (hj : j < h.length) : eyesOf (besH h g) j = eyesOf h j := by simp only [eyesOf, besH_l hj]
theorem eyes_r {j : Nat} : eyesOf (besH h g) (j + h.length) = (eyesOf g j).map (· + h.length) := by
  simp only [eyesOf, besH_r]
  cases g[j]? <;> simp [shF]
theorem tab_l {j : Nat} {r : List Nat} (oh : HsOk h) (hj : j < h.length) : tabAt (besH h g) j r = tabAt h j r := by
  obtain ⟨f, e⟩ := at_lt hj
  have e2 : (besH h g)[j]? = some f := by rw [besH_l hj]; exact e
  have fo := oh.fd f (List.mem_of_getElem? e)
  have : f.eyes.map (szs (besH h g)) = f.eyes.map (szs h) := List.map_congr_left fun q hq => szs_l (fo.eh q hq)
  simp only [tabAt, e, e2, this]
theorem tab_r {j : Nat} {r : List Nat} : tabAt (besH h g) (j + h.length) r = tabAt g j r := by
  simp only [tabAt, besH_r]
  cases e : g[j]? with
  | none => rfl
  | some f =>
    have : (f.eyes.map (· + h.length)).map (szs (besH h g)) = f.eyes.map (szs g) := by
      rw [List.map_map]
      exact List.map_congr_left fun q _ => szs_r
    simp only [Option.map_some, shF, this]
theorem zip_shift {e s : List Nat} {n : Nat} : (e.map (· + n)).zip s = (e.zip s).map fun p => (p.1 + n, p.2) := by
  rw [List.zip_map_left]
  rfl
theorem seen_l {j : Nat} {s : List Nat} (oh : HsOk h) (hj : j < h.length) (la : A.length = h.length) : seenV (besH h g) (A ++ B) j s = seenV h A j s := by
  simp only [seenV, eyes_l hj]
  refine List.map_congr_left fun p hp => ?_
  have := eyes_lt oh (List.of_mem_zip (show (p.1, p.2) ∈ _ from hp)).1
  rw [getD_l (by omega)]
theorem seen_r {j : Nat} {s : List Nat} (la : A.length = h.length) : seenV (besH h g) (A ++ B) (j + h.length) s = seenV g B j s := by
  simp only [seenV, eyes_r, zip_shift, List.map_map]
  refine List.map_congr_left fun p hp => ?_
  simp only [Function.comp, getD_r la]
theorem val_l {j : Nat} {s : List Nat} (oh : HsOk h) (hj : j < h.length) (la : A.length = h.length) : valBy (besH h g) (A ++ B) j s = valBy h A j s := by
  rw [valBy, valBy, tab_l oh hj, seen_l oh hj la]
theorem val_r {j : Nat} {s : List Nat} (la : A.length = h.length) : valBy (besH h g) (A ++ B) (j + h.length) s = valBy g B j s := by
  rw [valBy, valBy, tab_r, seen_r la]
theorem stp_l {m : Mv} (oh : HsOk h) (hj : m.1 < h.length) (la : A.length = h.length) : stepV (besH h g) (A ++ B) m = stepV h A m ++ B := by
  rw [stepV, stepV, val_l oh hj la, getD_l (by omega), set_l (by omega)]
theorem stp_r {m : Mv} (la : A.length = h.length) : stepV (besH h g) (A ++ B) (shM h.length m) = A ++ stepV g B m := by
  show (A ++ B).set (m.1 + h.length) ((A ++ B).getD (m.1 + h.length) [] ++ [valBy (besH h g) (A ++ B) (m.1 + h.length) m.2]) = _
  rw [val_r la, getD_r la, set_r la]
  rfl
theorem bmp_l {j : Nat} (hj : j < x.length) : bump (x ++ y) j = bump x j ++ y := by
  rw [bump, bump, getD_l hj, set_l hj]
theorem bmp_r {j n : Nat} (lx : x.length = n) : bump (x ++ y) (j + n) = x ++ bump y j := by
  rw [bump, bump, getD_r lx, set_r lx]
theorem mvc_l {m : Mv} (oh : HsOk h) (lx : x.length = h.length) (mo : MvC h x m) : MvC (besH h g) (x ++ y) m := by
  refine ⟨by rw [besH_len]; have := mo.pl; omega, by rw [eyes_l mo.pl]; exact mo.ln, fun p hp => ?_⟩
  rw [eyes_l mo.pl] at hp
  have := eyes_lt oh (List.of_mem_zip (show (p.1, p.2) ∈ _ from hp)).1
  rw [getD_l (by omega)]
  exact mo.bd p hp
theorem mvc_r {m : Mv} (lx : x.length = h.length) (mo : MvC g y m) : MvC (besH h g) (x ++ y) (shM h.length m) := by
  refine ⟨by rw [besH_len]; show m.1 + h.length < _; have := mo.pl; omega, ?_, fun p hp => ?_⟩
  · show m.2.length = (eyesOf (besH h g) (m.1 + h.length)).length
    rw [eyes_r, List.length_map]; exact mo.ln
  · replace hp : p ∈ (eyesOf (besH h g) (m.1 + h.length)).zip m.2 := hp
    rw [eyes_r, zip_shift] at hp
    obtain ⟨q, hq, rfl⟩ := List.mem_map.mp hp
    rw [getD_r lx]
    exact mo.bd q hq
theorem flp_l {m : Mv} (oh : HsOk h) (hj : m.1 < h.length) (lx : x.length = h.length) : flip1 (besH h g) (x ++ y) m = flip1 h x m := by
  simp only [flip1, eyes_l hj]
  congr 1
  refine List.map_congr_left fun p hp => ?_
  have := eyes_lt oh (List.of_mem_zip (show (p.1, p.2) ∈ _ from hp)).1
  rw [getD_l (by omega)]
theorem flp_r {m : Mv} (lx : x.length = h.length) : flip1 (besH h g) (x ++ y) (shM h.length m) = shM h.length (flip1 g y m) := by
  simp only [flip1, shM, eyes_r, zip_shift, List.map_map]
  congr 1
  refine List.map_congr_left fun p hp => ?_
  simp only [Function.comp, getD_r lx]

/-! ### runs woven -/
theorem wv_cnt {a b c : List Mv} (oh : HsOk h) (w : Wv h.length a b c) : ∀ {x y : List Nat}, x.length = h.length → RunC h x a → RunC g y b → RunC (besH h g) (x ++ y) c ∧ cntM (x ++ y) c = cntM x a ++ cntM y b ∧ Wv h.length (flipV h x a) (flipV g y b) (flipV (besH h g) (x ++ y) c) := by
  induction w with
  | nil => exact fun _ _ _ => ⟨trivial, rfl, .nil⟩
  | @l a b c m w ih =>
    intro x y lx ra rb
    have hm := ra.1.pl
    have eb : bump (x ++ y) m.1 = bump x m.1 ++ y := bmp_l (by omega)
    obtain ⟨r1, r2, r3⟩ := ih (x := bump x m.1) (y := y) (by rw [bump_len]; exact lx) ra.2 rb
    refine ⟨⟨mvc_l oh lx ra.1, by rw [eb]; exact r1⟩, ?_, ?_⟩
    · show cntM (bump (x ++ y) m.1) c = cntM (bump x m.1) a ++ _
      rw [eb]; exact r2
    · rw [flipV, flipV, eb, flp_l oh hm lx]
      exact .l r3
  | @r a b c m w ih =>
    intro x y lx ra rb
    have eb : bump (x ++ y) (shM h.length m).1 = x ++ bump y m.1 := bmp_r lx
    obtain ⟨r1, r2, r3⟩ := ih (x := x) (y := bump y m.1) lx ra rb.2
    refine ⟨⟨mvc_r lx rb.1, by rw [eb]; exact r1⟩, ?_, ?_⟩
    · show cntM (bump (x ++ y) (shM h.length m).1) c = cntM x a ++ cntM (bump y m.1) b
      rw [eb]; exact r2
    · rw [flipV, flipV, eb, flp_r lx]
      exact .r r3
theorem wv_ver {a b c : List Mv} (oh : HsOk h) (w : Wv h.length a b c) : ∀ {A B : List (List Nat)}, A.length = h.length → (∀ m ∈ a, m.1 < h.length) → versV (besH h g) (A ++ B) c = versV h A a ++ versV g B b := by
  induction w with
  | nil => exact fun _ _ => rfl
  | @l a b c m w ih =>
    intro A B la ha
    show versV _ (stepV _ (A ++ B) m) c = versV h (stepV h A m) a ++ _
    rw [stp_l oh (ha m (by simp)) la]
    exact ih (by simp [stepV, la]) fun q hq => ha q (by simp [hq])
  | @r a b c m w ih =>
    intro A B la ha
    show versV _ (stepV _ (A ++ B) (shM h.length m)) c = _ ++ versV g (stepV g B m) b
    rw [stp_r la]
    exact ih la ha
theorem wv_fl {n : Nat} {a b c : List Mv} (w : Wv n a b c) (ha : ∀ m ∈ a, m.1 < n) : c.filter (fun m => decide (m.1 < n)) = a ∧ (c.filter fun m => decide (n ≤ m.1)).map (fun m => (m.1 - n, m.2)) = b := by
  induction w with
  | nil => exact ⟨rfl, rfl⟩
  | @l a b c m w ih =>
    obtain ⟨i1, i2⟩ := ih fun q hq => ha q (by simp [hq])
    have hm := ha m (by simp)
    have h2 : ¬ n ≤ m.1 := by omega
    simp [hm, h2, i1, i2]
  | @r a b c m w ih =>
    obtain ⟨i1, i2⟩ := ih ha
    simp [shM, i1, i2]
theorem stsV_hd {h : Hs} {ms : List Mv} {rows : List (List Nat)} {st : List Nat} : ∃ r, stsV h rows st ms = st :: r := by
  cases ms
  · exact ⟨[], rfl⟩
  · exact ⟨_, rfl⟩
theorem wv_end {a b c : List Mv} (oh : HsOk h) (w : Wv h.length a b c) : ∀ {A B : List (List Nat)} {s t : List Nat}, A.length = h.length → s.length = h.length → (∀ m ∈ a, m.1 < h.length) → endV (besH h g) (A ++ B) (s ++ t) c = endV h A s a ++ endV g B t b := by
  have cons : ∀ {k : Hs} {rows : List (List Nat)} {st : List Nat} {m : Mv} {ms : List Mv}, endV k rows st (m :: ms) = endV k (stepV k rows m) (st.set m.1 (valBy k rows m.1 m.2)) ms := by
    intro k rows st m ms
    rw [endV, endV, stsV]
    obtain ⟨r, e⟩ := stsV_hd (h := k) (ms := ms) (rows := stepV k rows m) (st := st.set m.1 (valBy k rows m.1 m.2))
    rw [e]; rfl
  induction w with
  | nil => exact fun _ _ _ => rfl
  | @l a b c m w ih =>
    intro A B s t la ls ha
    have hm := ha m (by simp)
    rw [cons, cons, stp_l oh hm la, val_l oh hm la, set_l (by omega)]
    exact ih (by simp [stepV, la]) (by simp [ls]) fun q hq => ha q (by simp [hq])
  | @r a b c m w ih =>
    intro A B s t la ls ha
    rw [cons, cons, stp_r la]
    have e : (s ++ t).set (shM h.length m).1 (valBy (besH h g) (A ++ B) (shM h.length m).1 (shM h.length m).2) = s ++ t.set m.1 (valBy g B m.1 m.2) := by
      show (s ++ t).set (m.1 + h.length) (valBy (besH h g) (A ++ B) (m.1 + h.length) m.2) = _
      rw [val_r la, set_r ls]
    rw [e]
    exact ih la ls ha
/-- whether some state is not this one -/
def othr (x : List Nat) (L : List (List Nat)) : Bool := L.any fun z => decide (z ≠ x)
theorem wv_oth {a b c : List Mv} (oh : HsOk h) (w : Wv h.length a b c) {x0 y0 : List Nat} (lx : x0.length = h.length) : ∀ {A B : List (List Nat)} {s t : List Nat}, A.length = h.length → s.length = h.length → (∀ m ∈ a, m.1 < h.length) → othr (x0 ++ y0) (stsV (besH h g) (A ++ B) (s ++ t) c) = (othr x0 (stsV h A s a) || othr y0 (stsV g B t b)) := by
  have ap : ∀ {s t : List Nat}, s.length = h.length → decide (s ++ t ≠ x0 ++ y0) = (decide (s ≠ x0) || decide (t ≠ y0)) := by
    intro s t ls
    rw [Bool.eq_iff_iff]
    simp only [Bool.or_eq_true, decide_eq_true_eq]
    constructor
    · intro hne
      by_cases h1 : s = x0
      · exact .inr fun h2 => hne (by rw [h1, h2])
      · exact .inl h1
    · intro hor heq
      have := List.append_inj heq (by omega)
      rcases hor with z | z
      · exact z this.1
      · exact z this.2
  have hd : ∀ {k : Hs} {R : List (List Nat)} {u v : List Nat} {ms : List Mv}, (decide (u ≠ v) || othr v (stsV k R u ms)) = othr v (stsV k R u ms) := by
    intro k R u v ms
    obtain ⟨r, e⟩ := stsV_hd (h := k) (ms := ms) (rows := R) (st := u)
    rw [e, othr, List.any_cons]
    cases decide (u ≠ v) <;> simp
  induction w with
  | nil =>
    intro A B s t la ls ha
    simp only [stsV, othr, List.any_cons, List.any_nil, Bool.or_false]
    exact ap ls
  | @l a b c m w ih =>
    intro A B s t la ls ha
    have hm := ha m (by simp)
    have e := ih (A := stepV h A m) (B := B) (s := s.set m.1 (valBy h A m.1 m.2)) (t := t) (by simp [stepV, la]) (by simp [ls]) fun q hq => ha q (by simp [hq])
    rw [stsV, stsV, stp_l oh hm la, val_l oh hm la, set_l (by omega)]
    simp only [othr, List.any_cons] at e ⊢
    rw [e, ap ls]
    have := hd (k := g) (R := B) (u := t) (v := y0) (ms := b)
    simp only [othr] at this
    rw [← this]
    cases decide (s ≠ x0) <;> cases decide (t ≠ y0) <;> simp
  | @r a b c m w ih =>
    intro A B s t la ls ha
    have e := ih (A := A) (B := stepV g B m) (s := s) (t := t.set m.1 (valBy g B m.1 m.2)) la ls ha
    have e2 : (s ++ t).set (shM h.length m).1 (valBy (besH h g) (A ++ B) (shM h.length m).1 (shM h.length m).2) = s ++ t.set m.1 (valBy g B m.1 m.2) := by
      show (s ++ t).set (m.1 + h.length) (valBy (besH h g) (A ++ B) (m.1 + h.length) m.2) = _
      rw [val_r la, set_r ls]
    rw [stsV, stp_r la, e2]
    have ec : stsV g B t (m :: b) = t :: stsV g (stepV g B m) (t.set m.1 (valBy g B m.1 m.2)) b := rfl
    rw [ec]
    simp only [othr, List.any_cons] at e ⊢
    rw [e, ap ls]
    have := hd (k := h) (R := A) (u := s) (v := x0) (ms := a)
    simp only [othr] at this
    rw [← this]
    cases decide (s ≠ x0) <;> cases decide (t ≠ y0) <;> simp
end

/-! ### the start of both -/
def besS (s t : St) : St := ⟨s.st ++ t.st, s.old ++ t.old⟩
theorem besS_ok {h g : Hs} {s t : St} (so : StOk h s) (to : StOk g t) : StOk (besH h g) (besS s t) := by
  have key : ∀ j, j < (besH h g).length → (j < h.length ∧ (besS s t).st.getD j 0 = s.st.getD j 0 ∧ (besS s t).old.getD j [] = s.old.getD j [] ∧ szs (besH h g) j = szs h j) ∨ ∃ i, i < g.length ∧ (besS s t).st.getD j 0 = t.st.getD i 0 ∧ (besS s t).old.getD j [] = t.old.getD i [] ∧ szs (besH h g) j = szs g i := by
    intro j hj
    rw [besH_len] at hj
    by_cases hl : j < h.length
    · exact .inl ⟨hl, getD_l (by rw [so.sl]; exact hl), getD_l (by rw [so.ol]; exact hl), szs_l hl⟩
    · obtain ⟨i, rfl⟩ : ∃ i, j = i + h.length := ⟨j - h.length, by omega⟩
      exact .inr ⟨i, by omega, getD_r so.sl, getD_r so.ol, szs_r⟩
  refine ⟨by simp [besS, besH_len, so.sl, to.sl], by simp [besS, besH_len, so.ol, to.ol], fun j hj => ?_, fun o ho => ?_, fun o ho => ?_, fun j hj => ?_⟩
  · rcases key j hj with ⟨h1, h2, h3, _⟩ | ⟨i, h1, h2, h3, _⟩
    · rw [h2, h3]; exact so.mem j h1
    · rw [h2, h3]; exact to.mem i h1
  · rcases List.mem_append.mp ho with z | z
    · exact so.ris o z
    · exact to.ris o z
  · rcases List.mem_append.mp ho with z | z
    · exact so.o8 o z
    · exact to.o8 o z
  · rcases key j hj with ⟨h1, _, h3, h4⟩ | ⟨i, h1, _, h3, h4⟩
    · rw [h3, h4]; exact so.lt j h1
    · rw [h3, h4]; exact to.lt i h1
theorem besS_first {h g : Hs} {s t : St} (so : StOk h s) (to : StOk g t) : firstV (besH h g) (besS s t) = firstV h s ++ firstV g t := by
  rw [firstV_zip (besS_ok so to), firstV_zip so, firstV_zip to, ← List.map_append]
  congr 1
  rw [besS]
  rw [List.zip_append (by rw [so.sl, so.ol])]
theorem lens_app {A B : List (List Nat)} : lens (A ++ B) = lens A ++ lens B := by simp [lens]
end Lt.Mt

namespace Lt.Mt
open PySem

/-! ### _law_beside_right -/
structure BesOk (h g : Hs) (s t : St) (a b c : List Mv) : Prop where
  oh : HsOk h
  og : HsOk g
  l8 : h.length + g.length ≤ 8
  so : StOk h s
  to : StOk g t
  ra : RunOk h (firstV h s) a
  rb : RunOk g (firstV g t) b
  w : Wv h.length a b c
  la : a.length + b.length ≤ 40000
section
variable {h g : Hs} {s t : St} {a b c : List Mv}
theorem BesOk.oH (o : BesOk h g s t a b c) : HsOk (besH h g) := besH_ok o.oh o.og o.l8
theorem BesOk.sO (o : BesOk h g s t a b c) : StOk (besH h g) (besS s t) := besS_ok o.so o.to
theorem BesOk.fs (o : BesOk h g s t a b c) : firstV (besH h g) (besS s t) = firstV h s ++ firstV g t := besS_first o.so o.to
theorem BesOk.cn (o : BesOk h g s t a b c) : RunC (besH h g) (lens (firstV (besH h g) (besS s t))) c ∧ cntM (lens (firstV (besH h g) (besS s t))) c = cntM (lens (firstV h s)) a ++ cntM (lens (firstV g t)) b ∧ Wv h.length (flipV h (lens (firstV h s)) a) (flipV g (lens (firstV g t)) b) (flipV (besH h g) (lens (firstV (besH h g) (besS s t))) c) := by
  rw [o.fs, lens_app]
  exact wv_cnt o.oh o.w lens_first (runC_iff.mpr o.ra) (runC_iff.mpr o.rb)
theorem BesOk.ro (o : BesOk h g s t a b c) : RunOk (besH h g) (firstV (besH h g) (besS s t)) c := runC_iff.mp o.cn.1
theorem BesOk.vr (o : BesOk h g s t a b c) : versV (besH h g) (firstV (besH h g) (besS s t)) c = versV h (firstV h s) a ++ versV g (firstV g t) b := by
  rw [o.fs]
  exact wv_ver o.oh o.w firstV_len (run_pl o.ra)
theorem BesOk.en (o : BesOk h g s t a b c) : endV (besH h g) (firstV (besH h g) (besS s t)) (besS s t).st c = endV h (firstV h s) s.st a ++ endV g (firstV g t) t.st b := by
  rw [o.fs]
  exact wv_end o.oh o.w firstV_len o.so.sl (run_pl o.ra)
theorem BesOk.lc (o : BesOk h g s t a b c) : c.length ≤ 40000 := by rw [o.w.len]; exact o.la
theorem range_getD {α : Type} {l : List α} {d : α} {n : Nat} (hn : l.length = n) : (List.range n).map (fun j => l.getD j d) = l := by
  subst hn
  apply List.ext_getElem?
  intro i
  by_cases hi : i < l.length
  · rw [List.getElem?_map, List.getElem?_range hi, Option.map_some, getD_at hi]
  · rw [List.getElem?_eq_none (by simp; omega), List.getElem?_eq_none (by omega)]
theorem add_tt {xs ys : List D} (h : xs.length + ys.length ≤ 1000000) : addD (.tup xs) (.tup ys) = some (.p (.tup (xs ++ ys))) := by rw [addD]; exact if_pos h
theorem add_ll {xs ys : List D} (h : xs.length + ys.length ≤ 1000000) : addD (.lst xs) (.lst ys) = some (.o1 (xs ++ ys)) := by rw [addD]; exact if_pos h
/-- the start of both, put together -/
theorem bs_start {F : FT} {ρ : Env} {ts : Tin} {i j v : Nat} {s t : St} (hg : getE ρ v = some (.p (.lst [encS s, encS t]))) (hi : ∀ x y : D, setTg (wipeE ρ [i, j]) (.many [i, j]) (.tup [x, y]) = some (setE (setE (wipeE ρ [i, j]) i (some (.p x))) j (some (.p y)))) (g1 : ∀ (x y : D), getE (setE (setE (wipeE ρ [i, j]) i (some (.p x))) j (some (.p y))) i = some (.p x)) (g2 : ∀ (x y : D), getE (setE (setE (wipeE ρ [i, j]) i (some (.p x))) j (some (.p y))) j = some (.p y)) (l1 : s.st.length + t.st.length ≤ 1000) (l2 : s.old.length + t.old.length ≤ 1000) :
    ev F (.bi .tuple (.cn (.lc [i, j] (.many [i, j]) (.zp (.idx (.var v) (.int 0)) (.idx (.var v) (.int 1))) (.bl true) (.add (.var i) (.var j)) false) .nl)) ρ ts = some (.p (encS (besS s t)), ts) := by
  have e := bs_lc (F := F) (ρ := ρ) (ts := ts) (ts1 := ts) (own := [i, j]) (tg := .many [i, j]) (it := .zp (.idx (.var v) (.int 0)) (.idx (.var v) (.int 1))) (elt := .add (.var i) (.var j)) (l := [(tns s.st, tns t.st, tns (s.st ++ t.st)), (.tup (s.old.map tns), .tup (t.old.map tns), .tup ((s.old ++ t.old).map tns))]) (enc := fun p => .tup [p.1, p.2.1]) (fun p => p.2.2)
    (bs_zp (xs := [tns s.st, .tup (s.old.map tns)]) (ys := [tns t.st, .tup (t.old.map tns)]) (bs_idx (d := encS s) (bs_var hg) bs_int rfl) (bs_idx (d := encS t) (bs_var hg) bs_int rfl) rfl rfl) (fun p hp => by
      refine ⟨_, .p p.2.2, hi p.1 p.2.1, bs_add (bs_var (g1 _ _)) (bs_var (g2 _ _)) ?_, rfl⟩
      simp only [List.mem_cons, List.not_mem_nil, or_false] at hp
      rcases hp with rfl | rfl
      · show addD (.tup (ns s.st)) (.tup (ns t.st)) = some (.p (.tup (ns (s.st ++ t.st))))
        rw [add_tt (by rw [ns_len, ns_len]; omega), ns_app]
      · show addD (.tup _) (.tup _) = some (.p (.tup ((s.old ++ t.old).map tns)))
        rw [add_tt (by rw [List.length_map, List.length_map]; omega), List.map_append])
  exact bs_bi (bs_cn e bs_nl) rfl
def besGot (h g : Hs) (s t : St) (a b c : List Mv) : D := .lst [.bl true, .lst ((versV h (firstV h s) a ++ versV g (firstV g t) b).map tns), tns (endV h (firstV h s) s.st a ++ endV g (firstV g t) t.st b), encMs (flipV h (lens (firstV h s)) a), encMs (flipV g (lens (firstV g t)) b), .lst ((List.range h.length).map fun j => tns (newV h (cntM (lens (firstV h s)) a) j)), .int (c.length + 1 : Nat)]
theorem bpd_m {k : Nat} {m : Mv} : bpd (k + 2) (encM m) = true := by
  simp only [encM, bpd, List.all_cons, List.all_nil, bpd_tns, Bool.and_true]
theorem bpd_ms {k : Nat} {ms : List Mv} : bpd (k + 3) (encMs ms) = true := bpd_t fun _ _ => bpd_m
theorem besGot_bpd : bpd 4 (besGot h g s t a b c) = true := by
  rw [besGot, bpd]
  simp only [List.all_cons, List.all_nil, bpd_ms, bpd_tns, bpd_int, Bool.and_true, Bool.true_and]
  rw [bpd_bl, bpd_l (enc := tns) fun _ _ => bpd_tns (k := 1), bpd_l (enc := fun j => tns (newV h (cntM (lens (firstV h s)) a) j)) fun _ _ => bpd_tns (k := 1)]
  rfl
/-- vers, one behind another -/
theorem bs_vers {l : Nat} {ρ : Env} {ts : Tin} {h : Hs} {s : St} {ms : List Mv} {tm e1 e2 : Tm} {j : Nat} (ok : HsOk h) (so : StOk h s) (ro : RunOk h (firstV h s) ms) (lo : ms.length ≤ 90000) (ht : ev (FL (l + 5)) tm ρ ts = some (.p (encH h), ts)) (hs : ∀ n : Nat, setTg (wipeE ρ [j]) (.one j) (.int (n : Nat)) = some (setE (wipeE ρ [j]) j (some (.p (.int (n : Nat)))))) (hv : ∀ n : Nat, getE (setE (wipeE ρ [j]) j (some (.p (.int (n : Nat))))) j = some (.p (.int (n : Nat))))
    (h1 : ∀ n : Nat, ev (FL (l + 5)) e1 (setE (wipeE ρ [j]) j (some (.p (.int (n : Nat))))) ts = some (.p (encH h), ts)) (h2 : ∀ n : Nat, ev (FL (l + 5)) e2 (setE (wipeE ρ [j]) j (some (.p (.int (n : Nat))))) ts = some (.p (encR s ms), ts)) :
    ev (FL (l + 5)) (.lc [j] (.one j) (.rng (.bi .len (.cn tm .nl))) (.bl true) (.fn 30 (.cn e1 (.cn e2 (.cn (.var j) .nl)))) false) ρ ts = some (.o1 ((versV h (firstV h s) ms).map tns), ts) := by
  have vl : (versV h (firstV h s) ms).length = h.length := by rw [versV_len, firstV_len]
  have l8 := ok.l8
  have e := bs_lc (F := FL (l + 5)) (ρ := ρ) (ts := ts) (ts1 := ts) (own := [j]) (tg := .one j) (it := .rng (.bi .len (.cn tm .nl))) (elt := .fn 30 (.cn e1 (.cn e2 (.cn (.var j) .nl)))) (l := List.range h.length) (enc := fun (n : Nat) => .int (n : Int)) (fun j => tns ((versV h (firstV h s) ms).getD j []))
    (bs_rng (bs_bi (bs_cn ht bs_nl) len_h) (rngD_nat (by omega))) fun n hn => ⟨_, _, hs n, bs_fn (bs_cn (h1 n) (bs_cn (h2 n) (bs_cn (bs_var (hv n)) bs_nl))) (f_versions ok so ro lo (List.mem_range.mp hn) vl) cl_tns, rfl⟩
  rw [e]
  have : (List.range h.length).map (fun j => tns ((versV h (firstV h s) ms).getD j [])) = (versV h (firstV h s) ms).map tns := by
    have := congrArg (List.map tns) (range_getD (d := []) vl)
    rwa [List.map_map] at this
  rw [this]
theorem f_beside_right {l k : Nat} {ts : Tin} (oh : HsOk h) (og : HsOk g) (l8 : h.length + g.length ≤ 8) (so : StOk h s) (to : StOk g t) (ra : RunOk h (firstV h s) a) (rb : RunOk g (firstV g t) b) (la : a.length + b.length ≤ 40000) (ot : OkT k ts) (hk : k ≤ 1000000) :
    ∃ ts', FL (l + 10) 73 [.tin, .lst [encH h, encH g], .lst [encS s, encS t], .lst [encMs a, encMs b]] ts = some (.p (.bl true), ts') ∧ OkT (k + 100000) ts' := by
  obtain ⟨c, ts1, e5, w, ot1⟩ := f_woven (l := l + 7) (n := h.length) (A := a) (B := b) (by omega) ot (by omega)
  have o : BesOk h g s t a b c := ⟨oh, og, l8, so, to, ra, rb, w, la⟩
  refine ⟨ts1, ?_, ot1.mono (by omega)⟩
  have sh := oh.l8
  have sg := og.l8
  have lc := o.lc
  have fp := wv_fl o.cn.2.2 (fun m hm => by
    have := flipV_ok (runC_iff.mpr ra)
    exact (runC_mem this m hm).1)
  have np : ∀ j, j < h.length → newV (besH h g) (cntM (lens (firstV (besH h g) (besS s t))) c) j = newV h (cntM (lens (firstV h s)) a) j := fun j hj => by
    rw [newV, newV, eyes_l hj, o.cn.2.1]
    refine List.map_congr_left fun e he => ?_
    rw [getD_l (by rw [cntM_len, lens_first]; exact eyes_lt oh he)]
  have p1 : ∀ j, j < h.length → ∀ e ∈ eyesOf h j, 0 < (cntM (lens (firstV h s)) a).getD e 0 := fun j hj e he => Nat.lt_of_lt_of_le (first_pos (eyes_lt oh he)) cntM_ge
  have p2 : ∀ j, ∀ e ∈ eyesOf (besH h g) j, 0 < (cntM (lens (firstV (besH h g) (besS s t))) c).getD e 0 := fun j e he => Nat.lt_of_lt_of_le (first_pos (eyes_lt o.oH he)) cntM_ge
  have hl : ∀ j, j < h.length → j < (besH h g).length := fun j hj => by rw [besH_len]; omega
  have eS := f_same (l := l + 4) (ts := ts1) (besGot_bpd (h := h) (g := g) (s := s) (t := t) (a := a) (b := b) (c := c))
  refine FL_rt rfl rfl
    (bx_seq (ρ1 := [some (.p .tin), some (.p (.lst [encH h, encH g])), some (.p (.lst [encS s, encS t])), some (.p (.lst [encMs a, encMs b])), none, none, none, none, none, none, some (.p (encH (besH h g))), some (.p (.int (h.length : Nat))), none, none, none, none, none, none]) (bx_par (bs_fn (bs_cn (bs_idx (bs_var rfl) bs_int rfl) (bs_cn (bs_idx (bs_var rfl) bs_int rfl) bs_nl)) (f_beside oh og l8) cl_h) (bs_bi (bs_cn (bs_idx (bs_var rfl) bs_int rfl) bs_nl) len_h) rfl rfl)
    (bx_seq (ρ1 := [some (.p .tin), some (.p (.lst [encH h, encH g])), some (.p (.lst [encS s, encS t])), some (.p (.lst [encMs a, encMs b])), some (.p (encS (besS s t))), none, none, none, none, none, some (.p (encH (besH h g))), some (.p (.int (h.length : Nat))), none, none, none, none, none, none]) (bx_asg (bs_start (s := s) (t := t) rfl (fun _ _ => rfl) (fun _ _ => rfl) (fun _ _ => rfl) (by rw [so.sl, to.sl]; omega) (by rw [so.ol, to.ol]; omega)) rfl)
    (bx_seq (ρ1 := [some (.p .tin), some (.p (.lst [encH h, encH g])), some (.p (.lst [encS s, encS t])), some (.p (.lst [encMs a, encMs b])), some (.p (encS (besS s t))), some (.p (encMs c)), none, none, none, none, some (.p (encH (besH h g))), some (.p (.int (h.length : Nat))), none, none, none, none, none, none]) (bx_asg (bs_fn (bs_cn (bs_var rfl) (bs_cn (bs_idx (bs_var rfl) bs_int rfl) (bs_cn (bs_idx (bs_var rfl) bs_int rfl) (bs_cn (bs_var rfl) bs_nl)))) e5 cl_ms) rfl)
    (bx_seq (ρ1 := [some (.p .tin), some (.p (.lst [encH h, encH g])), some (.p (.lst [encS s, encS t])), some (.p (.lst [encMs a, encMs b])), some (.p (encS (besS s t))), some (.p (encMs c)), none, none, none, none, some (.p (encH (besH h g))), some (.p (.int (h.length : Nat))), some (.p (encR (besS s t) c)), some (.p (.lst [encR s a, encR t b])), none, none, none, none]) (bx_par (x := .p (encR (besS s t) c)) (y := .o1 [encR s a, encR t b]) (ts2 := ts1) (bs_tup (bs_cn (bs_var rfl) (bs_cn (bs_var rfl) bs_nl)) (show 2 ≤ 1000000 by omega)) ?runs rfl rfl)
    (bx_seq (ρ1 := [some (.p .tin), some (.p (.lst [encH h, encH g])), some (.p (.lst [encS s, encS t])), some (.p (.lst [encMs a, encMs b])), some (.p (encS (besS s t))), some (.p (encMs c)), some (.p (.lst [.lst ((versV h (firstV h s) a).map tns), .lst ((versV g (firstV g t) b).map tns)])), none, none, none, some (.p (encH (besH h g))), some (.p (.int (h.length : Nat))), some (.p (encR (besS s t) c)), some (.p (.lst [encR s a, encR t b])), none, none, none, none]) (bx_asg (r := .o1 [.lst ((versV h (firstV h s) a).map tns), .lst ((versV g (firstV g t) b).map tns)]) (ts1 := ts1) ?parts rfl)
    (bx_seq (ρ1 := [some (.p .tin), some (.p (.lst [encH h, encH g])), some (.p (.lst [encS s, encS t])), some (.p (.lst [encMs a, encMs b])), some (.p (encS (besS s t))), some (.p (encMs c)), some (.p (.lst [.lst ((versV h (firstV h s) a).map tns), .lst ((versV g (firstV g t) b).map tns)])), some (.o1 [.bl true, .lst ((versV h (firstV h s) a ++ versV g (firstV g t) b).map tns)]), none, none, some (.p (encH (besH h g))), some (.p (.int (h.length : Nat))), some (.p (encR (besS s t) c)), some (.p (.lst [encR s a, encR t b])), none, none, none, none]) (bx_asg (r := .o1 [.bl true, .lst ((versV h (firstV h s) a ++ versV g (firstV g t) b).map tns)]) (ts1 := ts1) (bs_lst (bs_cn (bs_fn (bs_cn (bs_var rfl) (bs_cn (bs_var rfl) bs_nl)) (f_isrun o.oH o.sO o.ro) rfl) (bs_cn (x := .o1 ((versV h (firstV h s) a ++ versV g (firstV g t) b).map tns)) (ts1 := ts1) ?vers bs_nl)) (show 2 ≤ 1000000 by omega)) rfl)
    (bx_seq (ρ1 := [some (.p .tin), some (.p (.lst [encH h, encH g])), some (.p (.lst [encS s, encS t])), some (.p (.lst [encMs a, encMs b])), some (.p (encS (besS s t))), some (.p (encMs c)), some (.p (.lst [.lst ((versV h (firstV h s) a).map tns), .lst ((versV g (firstV g t) b).map tns)])), some (.o1 [.bl true, .lst ((versV h (firstV h s) a ++ versV g (firstV g t) b).map tns), tns (endV h (firstV h s) s.st a ++ endV g (firstV g t) t.st b)]), none, none, some (.p (encH (besH h g))), some (.p (.int (h.length : Nat))), some (.p (encR (besS s t) c)), some (.p (.lst [encR s a, encR t b])), none, none, none, none]) (bx_app (xs := [.bl true, .lst ((versV h (firstV h s) a ++ versV g (firstV g t) b).map tns)]) (x := .p (tns (endV h (firstV h s) s.st a ++ endV g (firstV g t) t.st b))) (ts1 := ts1) ?beh rfl (show 2 < 1000000 by omega))
    (bx_seq (ρ1 := [some (.p .tin), some (.p (.lst [encH h, encH g])), some (.p (.lst [encS s, encS t])), some (.p (.lst [encMs a, encMs b])), some (.p (encS (besS s t))), some (.p (encMs c)), some (.p (.lst [.lst ((versV h (firstV h s) a).map tns), .lst ((versV g (firstV g t) b).map tns)])), some (.o1 [.bl true, .lst ((versV h (firstV h s) a ++ versV g (firstV g t) b).map tns), tns (endV h (firstV h s) s.st a ++ endV g (firstV g t) t.st b)]), some (.p (.lst [.bl true, .lst ((versV h (firstV h s) a ++ versV g (firstV g t) b).map tns), tns (endV h (firstV h s) s.st a ++ endV g (firstV g t) t.st b)])), none, some (.p (encH (besH h g))), some (.p (.int (h.length : Nat))), some (.p (encR (besS s t) c)), some (.p (.lst [encR s a, encR t b])), none, none, none, none]) (bx_asg (r := .o1 [.bl true, .lst ((versV h (firstV h s) a ++ versV g (firstV g t) b).map tns), tns (endV h (firstV h s) s.st a ++ endV g (firstV g t) t.st b)]) (ts1 := ts1) (bs_lst (bs_cn bs_bl (bs_cn (bs_add (r := .o1 ((versV h (firstV h s) a ++ versV g (firstV g t) b).map tns)) (bs_idx (d := .lst ((versV h (firstV h s) a).map tns)) (bs_var rfl) bs_int rfl) (bs_idx (d := .lst ((versV g (firstV g t) b).map tns)) (bs_var rfl) bs_int rfl) ?addv) (bs_cn (bs_add (r := .p (tns (endV h (firstV h s) s.st a ++ endV g (firstV g t) t.st b))) (bs_fn (bs_cn (bs_idx (bs_var rfl) bs_int rfl) (bs_cn (bs_idx (d := encR s a) (bs_var rfl) bs_int rfl) bs_nl)) (f_behind oh so ra (by omega)) cl_tns) (bs_fn (bs_cn (bs_idx (bs_var rfl) bs_int rfl) (bs_cn (bs_idx (d := encR t b) (bs_var rfl) bs_int rfl) bs_nl)) (f_behind og to rb (by omega)) cl_tns) ?adde) bs_nl))) (show 3 ≤ 1000000 by omega)) rfl)
    (bx_seq (ρ1 := [some (.p .tin), some (.p (.lst [encH h, encH g])), some (.p (.lst [encS s, encS t])), some (.p (.lst [encMs a, encMs b])), some (.p (encS (besS s t))), some (.p (encMs c)), some (.p (.lst [.lst ((versV h (firstV h s) a).map tns), .lst ((versV g (firstV g t) b).map tns)])), some (.o1 [.bl true, .lst ((versV h (firstV h s) a ++ versV g (firstV g t) b).map tns), tns (endV h (firstV h s) s.st a ++ endV g (firstV g t) t.st b)]), some (.p (.lst [.bl true, .lst ((versV h (firstV h s) a ++ versV g (firstV g t) b).map tns), tns (endV h (firstV h s) s.st a ++ endV g (firstV g t) t.st b)])), some (.p (encMs (flipV (besH h g) (lens (firstV (besH h g) (besS s t))) c))), some (.p (encH (besH h g))), some (.p (.int (h.length : Nat))), some (.p (encR (besS s t) c)), some (.p (.lst [encR s a, encR t b])), none, none, none, none]) (bx_asg (bs_fn (bs_cn (bs_var rfl) (bs_cn (bs_var rfl) bs_nl)) (f_strides o.oH o.sO o.ro (by omega)) cl_ms) rfl)
    (bx_seq (ρ1 := [some (.p .tin), some (.p (.lst [encH h, encH g])), some (.p (.lst [encS s, encS t])), some (.p (.lst [encMs a, encMs b])), some (.p (encS (besS s t))), some (.p (encMs c)), some (.p (.lst [.lst ((versV h (firstV h s) a).map tns), .lst ((versV g (firstV g t) b).map tns)])), some (.p (.lst [.bl true, .lst ((versV h (firstV h s) a ++ versV g (firstV g t) b).map tns), tns (endV h (firstV h s) s.st a ++ endV g (firstV g t) t.st b)])), some (.p (.lst [.bl true, .lst ((versV h (firstV h s) a ++ versV g (firstV g t) b).map tns), tns (endV h (firstV h s) s.st a ++ endV g (firstV g t) t.st b)])), some (.p (encMs (flipV (besH h g) (lens (firstV (besH h g) (besS s t))) c))), some (.p (encH (besH h g))), some (.p (.int (h.length : Nat))), some (.p (encR (besS s t) c)), some (.p (.lst [encR s a, encR t b])), none, none, none, none]) (bx_frz (r := .o1 [.bl true, .lst ((versV h (firstV h s) a ++ versV g (firstV g t) b).map tns), tns (endV h (firstV h s) s.st a ++ endV g (firstV g t) t.st b)]) rfl)
    (bx_seq (ρ1 := [some (.p .tin), some (.p (.lst [encH h, encH g])), some (.p (.lst [encS s, encS t])), some (.p (.lst [encMs a, encMs b])), some (.p (encS (besS s t))), some (.p (encMs c)), some (.p (.lst [.lst ((versV h (firstV h s) a).map tns), .lst ((versV g (firstV g t) b).map tns)])), some (.p (.lst [.bl true, .lst ((versV h (firstV h s) a ++ versV g (firstV g t) b).map tns), tns (endV h (firstV h s) s.st a ++ endV g (firstV g t) t.st b), encMs (flipV h (lens (firstV h s)) a)])), some (.p (.lst [.bl true, .lst ((versV h (firstV h s) a ++ versV g (firstV g t) b).map tns), tns (endV h (firstV h s) s.st a ++ endV g (firstV g t) t.st b)])), some (.p (encMs (flipV (besH h g) (lens (firstV (besH h g) (besS s t))) c))), some (.p (encH (besH h g))), some (.p (.int (h.length : Nat))), some (.p (encR (besS s t) c)), some (.p (.lst [encR s a, encR t b])), none, none, none, none]) (bx_asg (bs_add (bs_var rfl) (bs_lst (bs_cn (bs_bi (r := .p (encMs (flipV h (lens (firstV h s)) a))) (ts1 := ts1) (ds := [.lst ((flipV h (lens (firstV h s)) a).map encM)]) (bs_cn (x := .o1 ((flipV h (lens (firstV h s)) a).map encM)) (ts1 := ts1) ?str1 bs_nl) rfl) bs_nl) (show 1 ≤ 1000000 by omega)) (add_ll (show 3 + 1 ≤ 1000000 by omega))) rfl)
    (bx_seq (ρ1 := [some (.p .tin), some (.p (.lst [encH h, encH g])), some (.p (.lst [encS s, encS t])), some (.p (.lst [encMs a, encMs b])), some (.p (encS (besS s t))), some (.p (encMs c)), some (.p (.lst [.lst ((versV h (firstV h s) a).map tns), .lst ((versV g (firstV g t) b).map tns)])), some (.p (.lst [.bl true, .lst ((versV h (firstV h s) a ++ versV g (firstV g t) b).map tns), tns (endV h (firstV h s) s.st a ++ endV g (firstV g t) t.st b), encMs (flipV h (lens (firstV h s)) a), encMs (flipV g (lens (firstV g t)) b)])), some (.p (.lst [.bl true, .lst ((versV h (firstV h s) a ++ versV g (firstV g t) b).map tns), tns (endV h (firstV h s) s.st a ++ endV g (firstV g t) t.st b)])), some (.p (encMs (flipV (besH h g) (lens (firstV (besH h g) (besS s t))) c))), some (.p (encH (besH h g))), some (.p (.int (h.length : Nat))), some (.p (encR (besS s t) c)), some (.p (.lst [encR s a, encR t b])), none, none, none, none]) (bx_asg (bs_add (bs_var rfl) (bs_lst (bs_cn (bs_bi (r := .p (encMs (flipV g (lens (firstV g t)) b))) (ts1 := ts1) (ds := [.lst ((flipV g (lens (firstV g t)) b).map encM)]) (bs_cn (x := .o1 ((flipV g (lens (firstV g t)) b).map encM)) (ts1 := ts1) ?str2 bs_nl) rfl) bs_nl) (show 1 ≤ 1000000 by omega)) (add_ll (show 4 + 1 ≤ 1000000 by omega))) rfl)
    (bx_seq (ρ1 := [some (.p .tin), some (.p (.lst [encH h, encH g])), some (.p (.lst [encS s, encS t])), some (.p (.lst [encMs a, encMs b])), some (.p (encS (besS s t))), some (.p (encMs c)), some (.p (.lst [.lst ((versV h (firstV h s) a).map tns), .lst ((versV g (firstV g t) b).map tns)])), some (.p (.lst [.bl true, .lst ((versV h (firstV h s) a ++ versV g (firstV g t) b).map tns), tns (endV h (firstV h s) s.st a ++ endV g (firstV g t) t.st b), encMs (flipV h (lens (firstV h s)) a), encMs (flipV g (lens (firstV g t)) b)])), some (.p (.lst [.bl true, .lst ((versV h (firstV h s) a ++ versV g (firstV g t) b).map tns), tns (endV h (firstV h s) s.st a ++ endV g (firstV g t) t.st b), encMs (flipV h (lens (firstV h s)) a), encMs (flipV g (lens (firstV g t)) b)])), some (.p (encMs (flipV (besH h g) (lens (firstV (besH h g) (besS s t))) c))), some (.p (encH (besH h g))), some (.p (.int (h.length : Nat))), some (.p (encR (besS s t) c)), some (.p (.lst [encR s a, encR t b])), none, none, none, none]) (bx_asg (bs_add (bs_var rfl) (bs_lst (bs_cn (bs_fn (bs_cn (bs_idx (bs_var rfl) bs_int rfl) (bs_cn (bs_idx (d := encR s a) (bs_var rfl) bs_int rfl) bs_nl)) (f_strides oh so ra (by omega)) cl_ms) (bs_cn (bs_fn (bs_cn (bs_idx (bs_var rfl) bs_int rfl) (bs_cn (bs_idx (d := encR t b) (bs_var rfl) bs_int rfl) bs_nl)) (f_strides og to rb (by omega)) cl_ms) bs_nl)) (show 2 ≤ 1000000 by omega)) (add_ll (show 3 + 2 ≤ 1000000 by omega))) rfl)
    (bx_seq (ρ1 := [some (.p .tin), some (.p (.lst [encH h, encH g])), some (.p (.lst [encS s, encS t])), some (.p (.lst [encMs a, encMs b])), some (.p (encS (besS s t))), some (.p (encMs c)), some (.p (.lst [.lst ((versV h (firstV h s) a).map tns), .lst ((versV g (firstV g t) b).map tns)])), some (.p (.lst [.bl true, .lst ((versV h (firstV h s) a ++ versV g (firstV g t) b).map tns), tns (endV h (firstV h s) s.st a ++ endV g (firstV g t) t.st b), encMs (flipV h (lens (firstV h s)) a), encMs (flipV g (lens (firstV g t)) b), .lst ((List.range h.length).map fun j => tns (newV h (cntM (lens (firstV h s)) a) j)), .int (c.length + 1 : Nat)])), some (.p (.lst [.bl true, .lst ((versV h (firstV h s) a ++ versV g (firstV g t) b).map tns), tns (endV h (firstV h s) s.st a ++ endV g (firstV g t) t.st b), encMs (flipV h (lens (firstV h s)) a), encMs (flipV g (lens (firstV g t)) b)])), some (.p (encMs (flipV (besH h g) (lens (firstV (besH h g) (besS s t))) c))), some (.p (encH (besH h g))), some (.p (.int (h.length : Nat))), some (.p (encR (besS s t) c)), some (.p (.lst [encR s a, encR t b])), none, none, none, none]) (bx_asg (bs_add (bs_var rfl) (bs_lst (bs_cn (x := .o1 ((List.range h.length).map fun j => tns (newV h (cntM (lens (firstV h s)) a) j))) (ts1 := ts1) ?new1 (bs_cn (x := .p (.int (c.length + 1 : Nat))) (ts1 := ts1) ?len1 bs_nl)) (show 2 ≤ 1000000 by omega)) (add_ll (show 5 + 2 ≤ 1000000 by omega))) rfl)
    (bx_seq (ρ1 := [some (.p .tin), some (.p (.lst [encH h, encH g])), some (.p (.lst [encS s, encS t])), some (.p (.lst [encMs a, encMs b])), some (.p (encS (besS s t))), some (.p (encMs c)), some (.p (.lst [.lst ((versV h (firstV h s) a).map tns), .lst ((versV g (firstV g t) b).map tns)])), some (.p (.lst [.bl true, .lst ((versV h (firstV h s) a ++ versV g (firstV g t) b).map tns), tns (endV h (firstV h s) s.st a ++ endV g (firstV g t) t.st b), encMs (flipV h (lens (firstV h s)) a), encMs (flipV g (lens (firstV g t)) b), .lst ((List.range h.length).map fun j => tns (newV h (cntM (lens (firstV h s)) a) j)), .int (c.length + 1 : Nat)])), some (.p (.lst [.bl true, .lst ((versV h (firstV h s) a ++ versV g (firstV g t) b).map tns), tns (endV h (firstV h s) s.st a ++ endV g (firstV g t) t.st b), encMs (flipV h (lens (firstV h s)) a), encMs (flipV g (lens (firstV g t)) b), .lst ((List.range h.length).map fun j => tns (newV h (cntM (lens (firstV h s)) a) j)), .int (c.length + 1 : Nat)])), some (.p (encMs (flipV (besH h g) (lens (firstV (besH h g) (besS s t))) c))), some (.p (encH (besH h g))), some (.p (.int (h.length : Nat))), some (.p (encR (besS s t) c)), some (.p (.lst [encR s a, encR t b])), none, none, none, none]) (bx_asg (bs_add (bs_var rfl) (bs_lst (bs_cn (x := .o1 ((List.range h.length).map fun j => tns (newV h (cntM (lens (firstV h s)) a) j))) (ts1 := ts1) ?new2 (bs_cn (x := .p (.int (c.length + 1 : Nat))) (ts1 := ts1) ?len2 bs_nl)) (show 2 ≤ 1000000 by omega)) (add_ll (show 5 + 2 ≤ 1000000 by omega))) rfl)
    (bx_rt (bx_ret (bs_fn (bs_cn (bs_var rfl) (bs_cn (bs_var rfl) bs_nl)) eS rfl) rfl)))))))))))))))))
  case runs =>
    refine bs_lc (l := [((0 : Nat), encS s, encMs a), (1, encS t, encMs b)]) (enc := fun p => .int (p.1 : Nat)) (fun p => .tup [p.2.1, p.2.2]) (bs_rng bs_int rfl) fun p hp => ⟨_, _, rfl, bs_tup (bs_cn (bs_idx (d := p.2.1) (bs_var rfl) (bs_var rfl) ?_) (bs_cn (bs_idx (d := p.2.2) (bs_var rfl) (bs_var rfl) ?_) bs_nl)) (show 2 ≤ 1000000 by omega), rfl⟩
    all_goals
      simp only [List.mem_cons, List.not_mem_nil, or_false] at hp
      rcases hp with rfl | rfl <;> rfl
  case parts =>
    refine bs_lc (l := [((0 : Nat), D.lst ((versV h (firstV h s) a).map tns)), (1, D.lst ((versV g (firstV g t) b).map tns))]) (enc := fun p => .int (p.1 : Nat)) (fun p => p.2) (bs_rng bs_int rfl) fun p hp => ?_
    simp only [List.mem_cons, List.not_mem_nil, or_false] at hp
    rcases hp with rfl | rfl
    · exact ⟨_, _, rfl, bs_vers (l := l + 4) (s := s) (ms := a) oh so ra (by omega) (bs_idx (bs_var rfl) (bs_var rfl) rfl) (fun _ => rfl) (fun _ => rfl) (fun _ => bs_idx (bs_var rfl) (bs_var rfl) rfl) (fun _ => bs_idx (bs_var rfl) (bs_var rfl) rfl), rfl⟩
    · exact ⟨_, _, rfl, bs_vers (l := l + 4) (s := t) (ms := b) og to rb (by omega) (bs_idx (bs_var rfl) (bs_var rfl) rfl) (fun _ => rfl) (fun _ => rfl) (fun _ => bs_idx (bs_var rfl) (bs_var rfl) rfl) (fun _ => bs_idx (bs_var rfl) (bs_var rfl) rfl), rfl⟩
  case vers =>
    have e := bs_vers (l := l + 4) (ts := ts1) (ρ := [some (.p .tin), some (.p (.lst [encH h, encH g])), some (.p (.lst [encS s, encS t])), some (.p (.lst [encMs a, encMs b])), some (.p (encS (besS s t))), some (.p (encMs c)), some (.p (.lst [.lst ((versV h (firstV h s) a).map tns), .lst ((versV g (firstV g t) b).map tns)])), none, none, none, some (.p (encH (besH h g))), some (.p (.int (h.length : Nat))), some (.p (encR (besS s t) c)), some (.p (.lst [encR s a, encR t b])), none, none, none, none]) (tm := .var 10) (e1 := .var 10) (e2 := .var 12) (j := 15) (s := besS s t) (ms := c) o.oH o.sO o.ro (by omega) (bs_var rfl) (fun _ => rfl) (fun _ => rfl) (fun _ => bs_var rfl) (fun _ => bs_var rfl)
    rw [o.vr] at e
    exact e
  case beh =>
    have e := f_behind (l := l + 3) (ts := ts1) o.oH o.sO o.ro (by omega)
    rw [o.en] at e
    exact bs_fn (bs_cn (bs_var rfl) (bs_cn (bs_var rfl) bs_nl)) e cl_tns
  case addv =>
    show addD (.lst _) (.lst _) = _
    rw [add_ll (by rw [List.length_map, List.length_map, versV_len, versV_len, firstV_len, firstV_len]; omega), List.map_append]
  case adde =>
    have z : ∀ {k : Hs} {rows : List (List Nat)} {ms : List Mv} {st : List Nat}, (endV k rows st ms).length = st.length := by
      intro k rows ms
      induction ms generalizing rows with
      | nil => intro st; rfl
      | cons m ms ih =>
        intro st
        have : endV k rows st (m :: ms) = endV k (stepV k rows m) (st.set m.1 (valBy k rows m.1 m.2)) ms := by
          rw [endV, endV, stsV]
          obtain ⟨r, e⟩ := stsV_hd (h := k) (ms := ms) (rows := stepV k rows m) (st := st.set m.1 (valBy k rows m.1 m.2))
          rw [e]; rfl
        rw [this, ih, List.length_set]
    show addD (.tup (ns _)) (.tup (ns _)) = _
    rw [add_tt (by rw [ns_len, ns_len, z, z, so.sl, to.sl]; omega), ← ns_app]
    rfl
  case str1 =>
    have e := fp.1
    have e2 : (flipV h (lens (firstV h s)) a).map encM = ((flipV (besH h g) (lens (firstV (besH h g) (besS s t))) c).filter fun m => decide (m.1 < h.length)).map encM := by rw [e]
    rw [e2]
    exact bs_lcf (l := flipV (besH h g) (lens (firstV (besH h g) (besS s t))) c) (enc := encM) (fun m => decide (m.1 < h.length)) encM (bs_sq (bs_var rfl) rfl) fun m hm => ⟨_, rfl, bs_cmp (bs_idx (bs_var rfl) bs_int rfl) (bs_var rfl) lt_n, fun _ => ⟨_, bs_var rfl, rfl⟩⟩
  case str2 =>
    have e := fp.2
    have e2 : (flipV g (lens (firstV g t)) b).map encM = ((flipV (besH h g) (lens (firstV (besH h g) (besS s t))) c).filter fun m => decide (h.length ≤ m.1)).map fun m => encM (m.1 - h.length, m.2) := by rw [← e, List.map_map]; rfl
    rw [e2]
    refine bs_lcf (l := flipV (besH h g) (lens (firstV (besH h g) (besS s t))) c) (enc := encM) (fun m => decide (h.length ≤ m.1)) (fun m => encM (m.1 - h.length, m.2)) (bs_sq (bs_var rfl) rfl) fun m hm => ⟨_, rfl, bs_cmp (bs_idx (bs_var rfl) bs_int rfl) (bs_var rfl) ?_, fun hp => ⟨_, bs_tup (bs_cn (bs_sub (bs_idx (bs_var rfl) bs_int rfl) (bs_var rfl) rfl) (bs_cn (bs_idx (bs_var rfl) bs_int rfl) bs_nl)) (show 2 ≤ 1000000 by omega), ?_⟩⟩
    · show some (decide (((h.length : Nat) : Int) ≤ (m.1 : Nat))) = _
      simp
    · simp only [decide_eq_true_eq] at hp
      show D.tup [.int (((m.1 : Nat) : Int) - (h.length : Nat)), tns m.2] = D.tup [.int ((m.1 - h.length : Nat) : Int), tns m.2]
      have : ((m.1 : Nat) : Int) - (h.length : Nat) = ((m.1 - h.length : Nat) : Int) := by omega
      rw [this]
  case new1 =>
    exact bs_lc (l := List.range h.length) (enc := fun (n : Nat) => .int (n : Int)) (fun j => tns (newV h (cntM (lens (firstV h s)) a) j)) (bs_rng (bs_var rfl) (rngD_nat (by omega))) fun j hj => ⟨_, _, rfl, (bs_fn (bs_cn (bs_var rfl) (bs_cn (bs_var rfl) (bs_cn (bs_var rfl) bs_nl))) (f_newest o.oH o.sO o.ro (hl j (List.mem_range.mp hj)) (p2 j)) cl_tns), congrArg tns (np j (List.mem_range.mp hj))⟩
  case len1 =>
    have e := f_states (l := l + 4) (ts := ts1) o.oH o.sO o.ro (by omega)
    have e2 : biD .len [.lst ((stsV (besH h g) (firstV (besH h g) (besS s t)) (besS s t).st c).map tns)] = some (.p (.int (c.length + 1 : Nat))) := by rw [len_lm, stsV_len]
    exact bs_bi (bs_cn (bs_fn (bs_cn (bs_var rfl) (bs_cn (bs_var rfl) bs_nl)) e (clean_map fun _ => cl_tns)) bs_nl) e2
  case new2 =>
    exact bs_lc (l := List.range h.length) (enc := fun (n : Nat) => .int (n : Int)) (fun j => tns (newV h (cntM (lens (firstV h s)) a) j)) (bs_rng (bs_var rfl) (rngD_nat (by omega))) fun j hj => ⟨_, _, rfl, (bs_fn (bs_cn (bs_idx (bs_var rfl) bs_int rfl) (bs_cn (bs_idx (d := encR s a) (bs_var rfl) bs_int rfl) (bs_cn (bs_var rfl) bs_nl))) (f_newest oh so ra (List.mem_range.mp hj) (p1 j (List.mem_range.mp hj))) cl_tns), rfl⟩
  case len2 =>
    exact bs_add (bs_bi (bs_cn (bs_var rfl) bs_nl) len_tm) bs_int rfl
end
end Lt.Mt

namespace Lt.Mt
open PySem

/-! ### a lap from what came round -/
theorem goneV_app {h : Hs} {s : St} {ms a b : List Mv} : goneV h s ms (a ++ b) = goneV h s (goneV h s ms a) b := by
  have e : goneV h s (goneV h s ms a) b = goneV h s ms a ++ flipV h (cntM (lens (firstV h s)) (goneV h s ms a)) b := rfl
  rw [e, gone_cnt, goneV, flipV_app, goneV, List.append_assoc]
def rep (k : Nat) (sp : List Mv) : List Mv := (List.replicate k sp).flatten
theorem rep_succ {k : Nat} {sp : List Mv} : rep (k + 1) sp = sp ++ rep k sp := by simp [rep, List.replicate_succ]
theorem rep_mem {k : Nat} {sp : List Mv} {m : Mv} (h : m ∈ rep k sp) : m ∈ sp := by
  simp only [rep, List.mem_flatten] at h
  obtain ⟨l, hl, hm⟩ := h
  rwa [← List.eq_of_mem_replicate hl]
theorem rep_has {k : Nat} {sp : List Mv} {m : Mv} (hk : 1 ≤ k) (h : m ∈ sp) : m ∈ rep k sp := by
  obtain ⟨k, rfl⟩ : ∃ j, k = j + 1 := ⟨k - 1, by omega⟩
  rw [rep_succ]; exact List.mem_append.mpr (.inl h)
theorem rep_len {sp : List Mv} : ∀ {k : Nat}, (rep k sp).length = k * sp.length
  | 0 => by simp [rep]
  | k + 1 => by rw [rep_succ, List.length_append, rep_len, Nat.add_mul]; omega
theorem gone_rep {h : Hs} {s : St} {sp : List Mv} : ∀ {k : Nat} {ms : List Mv}, goneV h s ms (rep k sp) = itG h s sp ms k
  | 0, ms => by simp [rep, goneV, flipV, itG]
  | k + 1, ms => by
    rw [rep_succ, goneV_app, gone_rep, Nat.add_comm, itG_it]
    rfl
theorem set_same {fd : List Nat} {i x : Nat} (h : x ≤ fd.getD i 0) (hi : i < fd.length) : fd.set i (max (fd.getD i 0) x) = fd := by
  rw [Nat.max_eq_left h]
  apply List.ext_getElem?
  intro j
  rw [List.getElem?_set]
  split
  · rename_i e
    subst e
    exact (getD_at hi).symm
  · rfl
theorem dep_fix : ∀ {ps : List (Nat × Nat)} {fd : List Nat}, (∀ p ∈ ps, p.1 < fd.length ∧ p.2 + 1 ≤ fd.getD p.1 0) → ps.foldl dep1 fd = fd
  | [], _, _ => rfl
  | p :: ps, fd, h => by
    obtain ⟨h1, h2⟩ := h p (by simp)
    have e : dep1 fd p = fd := set_same h2 h1
    rw [List.foldl_cons, e]
    exact dep_fix fun q hq => h q (by simp [hq])
theorem depV_fix {h : Hs} : ∀ {sp : List Mv} {fd : List Nat}, (∀ m ∈ sp, ∀ p ∈ (eyesOf h m.1).zip m.2, p.1 < fd.length ∧ p.2 + 1 ≤ fd.getD p.1 0) → depV h fd sp = fd
  | [], _, _ => rfl
  | m :: sp, fd, hh => by
    have e : depM h fd m = fd := dep_fix (hh m (by simp))
    show depV h (depM h fd m) sp = fd
    rw [e]
    exact depV_fix fun q hq => hh q (by simp [hq])
theorem depV_rep {h : Hs} {sp : List Mv} (ok : HsOk h) {k : Nat} (hk : 1 ≤ k) : depV h (ones h) (rep k sp) = depV h (ones h) sp := by
  obtain ⟨k, rfl⟩ : ∃ j, k = j + 1 := ⟨k - 1, by omega⟩
  rw [rep_succ, depV_app]
  refine depV_fix fun m hm p hp => ?_
  have hp1 := eyes_lt ok (List.of_mem_zip (show (p.1, p.2) ∈ _ from hp)).1
  exact ⟨by rw [depV_len, ones_len]; exact hp1, depV_has (rep_mem hm) hp (by rw [ones_len]; exact hp1)⟩
theorem lap_of {h : Hs} {s : St} {sp ms : List Mv} {k : Nat} (ok : HsOk h) (mo : MtOk h s sp ms) (hk : 1 ≤ k) (all : ∀ j, j < h.length → ∃ m ∈ sp, m.1 = j) (et : tlV h s sp ms = tlV h s sp (itG h s sp ms k)) : LapOk h s ms (rep k sp) := by
  have dl : (depV h (ones h) sp).length = h.length := by rw [depV_len, ones_len]
  refine ⟨mo.ro, ?_, fun j hj => ?_, fun j hj => ?_⟩
  · refine runC_dep ok (d := depV h (ones h) sp) (fun m hm => mo.hs m (rep_mem hm)) (fun m hm p hp => depV_has (rep_mem hm) hp ?_) mo.dp
    rw [ones_len]; exact eyes_lt ok (List.of_mem_zip (show (p.1, p.2) ∈ _ from hp)).1
  · obtain ⟨m, hm, e⟩ := all j hj
    exact ⟨m, rep_has hk hm, e⟩
  · rw [depV_rep ok hk, gone_rep]
    refine ⟨depV_pos hj, ?_, ?_⟩
    · have := mo.dp j hj
      rw [← lens_vers, lens_at] at this
      exact this
    · have e1 := talV_at (rows := versV h (firstV h s) ms) (deep := depV h (ones h) sp) (j := j) (by rw [versV_len, firstV_len]; exact hj) (by rw [dl]; exact hj)
      have e2 := talV_at (rows := versV h (firstV h s) (itG h s sp ms k)) (deep := depV h (ones h) sp) (j := j) (by rw [versV_len, firstV_len]; exact hj) (by rw [dl]; exact hj)
      rw [tlV, tlV] at et
      rw [et, e2] at e1
      exact (Option.some.inj e1).symm

/-! ### states behind a lap -/
theorem versV_app {h : Hs} {rows : List (List Nat)} {a b : List Mv} : versV h rows (a ++ b) = versV h (versV h rows a) b := by simp [versV]
theorem endV_cons {k : Hs} {rows : List (List Nat)} {st : List Nat} {m : Mv} {ms : List Mv} : endV k rows st (m :: ms) = endV k (stepV k rows m) (st.set m.1 (valBy k rows m.1 m.2)) ms := by
  rw [endV, endV, stsV]
  obtain ⟨r, e⟩ := stsV_hd (h := k) (ms := ms) (rows := stepV k rows m) (st := st.set m.1 (valBy k rows m.1 m.2))
  rw [e]; rfl
theorem endV_len {k : Hs} : ∀ {ms : List Mv} {rows : List (List Nat)} {st : List Nat}, (endV k rows st ms).length = st.length
  | [], _, _ => rfl
  | m :: ms, rows, st => by rw [endV_cons, endV_len, List.length_set]
theorem stsV_drop {h : Hs} : ∀ {a b : List Mv} {rows : List (List Nat)} {st : List Nat}, (stsV h rows st (a ++ b)).drop a.length = stsV h (versV h rows a) (endV h rows st a) b
  | [], b, rows, st => rfl
  | m :: a, b, rows, st => by
    rw [List.cons_append, stsV, List.length_cons, List.drop_succ_cons, stsV_drop, endV_cons]
    rfl
theorem swg_eq {h : Hs} {s : St} {ms sp : List Mv} : swgV h s ms sp = othr (endV h (firstV h s) s.st ms) (stsV h (versV h (firstV h s) ms) (endV h (firstV h s) s.st ms) (flipV h (cntM (lens (firstV h s)) ms) sp)) := by
  have e : cirV h s ms sp = stsV h (versV h (firstV h s) ms) (endV h (firstV h s) s.st ms) (flipV h (cntM (lens (firstV h s)) ms) sp) := by rw [cirV, goneV, stsV_drop]
  rw [swgV, e, othr]
  obtain ⟨r, e2⟩ := stsV_hd (h := h) (ms := flipV h (cntM (lens (firstV h s)) ms) sp) (rows := versV h (firstV h s) ms) (st := endV h (firstV h s) s.st ms)
  rw [e2]; rfl

/-! ### laps woven -/
theorem wv_dep {h g : Hs} {a b c : List Mv} (oh : HsOk h) (w : Wv h.length a b c) : ∀ {x y : List Nat}, x.length = h.length → (∀ m ∈ a, m.1 < h.length) → depV (besH h g) (x ++ y) c = depV h x a ++ depV g y b := by
  have d_l : ∀ {ps : List (Nat × Nat)} {x y : List Nat}, (∀ p ∈ ps, p.1 < x.length) → ps.foldl dep1 (x ++ y) = ps.foldl dep1 x ++ y := by
    intro ps
    induction ps with
    | nil => exact fun _ => rfl
    | cons p ps ih =>
      intro x y hp
      have h1 := hp p (by simp)
      have e : dep1 (x ++ y) p = dep1 x p ++ y := by rw [dep1, dep1, getD_l h1, set_l h1]
      rw [List.foldl_cons, List.foldl_cons, e]
      exact ih fun q hq => by rw [dep1_len]; exact hp q (by simp [hq])
  have d_r : ∀ {ps : List (Nat × Nat)} {x y : List Nat}, x.length = h.length → (ps.map fun p => (p.1 + h.length, p.2)).foldl dep1 (x ++ y) = x ++ ps.foldl dep1 y := by
    intro ps
    induction ps with
    | nil => exact fun _ => rfl
    | cons p ps ih =>
      intro x y lx
      have e : dep1 (x ++ y) (p.1 + h.length, p.2) = x ++ dep1 y p := by
        show (x ++ y).set (p.1 + h.length) (max ((x ++ y).getD (p.1 + h.length) 0) (p.2 + 1)) = _
        rw [getD_r lx, set_r lx]; rfl
      rw [List.map_cons, List.foldl_cons, List.foldl_cons, e]
      exact ih lx
  induction w with
  | nil => exact fun _ _ => rfl
  | @l a b c m w ih =>
    intro x y lx ha
    have hm := ha m (by simp)
    have e : depM (besH h g) (x ++ y) m = depM h x m ++ y := by
      rw [depM, depM, eyes_l hm]
      exact d_l fun p hp => by rw [lx]; exact eyes_lt oh (List.of_mem_zip (show (p.1, p.2) ∈ _ from hp)).1
    show depV _ (depM _ (x ++ y) m) c = depV h (depM h x m) a ++ _
    rw [e]
    exact ih (by rw [depM, dep_len]; exact lx) fun q hq => ha q (by simp [hq])
  | @r a b c m w ih =>
    intro x y lx ha
    have e : depM (besH h g) (x ++ y) (shM h.length m) = x ++ depM g y m := by
      show ((eyesOf (besH h g) (m.1 + h.length)).zip m.2).foldl dep1 (x ++ y) = _
      rw [eyes_r, zip_shift]
      exact d_r lx
    show depV _ (depM _ (x ++ y) (shM h.length m)) c = _ ++ depV g (depM g y m) b
    rw [e]
    exact ih lx ha
theorem Wv.meml {n : Nat} {a b c : List Mv} (w : Wv n a b c) {m : Mv} (h : m ∈ a) : m ∈ c := by
  induction w with
  | nil => simp at h
  | l w ih =>
    rcases List.mem_cons.mp h with rfl | h
    · simp
    · simp [ih h]
  | r w ih => simp [ih h]
theorem Wv.memr {n : Nat} {a b c : List Mv} (w : Wv n a b c) {m : Mv} (h : m ∈ b) : shM n m ∈ c := by
  induction w with
  | nil => simp at h
  | l w ih => simp [ih h]
  | r w ih =>
    rcases List.mem_cons.mp h with rfl | h
    · simp
    · simp [ih h]
theorem ones_app {h g : Hs} : ones (besH h g) = ones h ++ ones g := by
  rw [ones, ones, ones, besH_len, List.replicate_append_replicate]
section
variable {h g : Hs} {s t : St} {a b c p q r : List Mv}
theorem lap_both (o : BesOk h g s t a b c) (w2 : Wv h.length p q r) (l1 : LapOk h s a p) (l2 : LapOk g t b q) : LapOk (besH h g) (besS s t) c r ∧ swgV (besH h g) (besS s t) c r = (swgV h s a p || swgV g t b q) := by
  have c1 : (cntM (lens (firstV h s)) a).length = h.length := by rw [cntM_len, lens_first]
  obtain ⟨k1, k2, k3⟩ := wv_cnt (g := g) (y := cntM (lens (firstV g t)) b) o.oh w2 c1 l1.rc l2.rc
  have hp : ∀ m ∈ p, m.1 < h.length := fun m hm => (runC_mem l1.rc m hm).1
  have hf : ∀ m ∈ flipV h (cntM (lens (firstV h s)) a) p, m.1 < h.length := fun m hm => (runC_mem (flipV_ok l1.rc) m hm).1
  have ec := o.cn.2.1
  have v1 : (versV h (firstV h s) a).length = h.length := by rw [versV_len, firstV_len]
  have ev : versV (besH h g) (firstV (besH h g) (besS s t)) (goneV (besH h g) (besS s t) c r) = versV h (firstV h s) (goneV h s a p) ++ versV g (firstV g t) (goneV g t b q) := by
    rw [goneV, goneV, goneV, versV_app, versV_app, versV_app, o.vr, ec]
    exact wv_ver o.oh k3 v1 hf
  have ed : depV (besH h g) (ones (besH h g)) r = depV h (ones h) p ++ depV g (ones g) q := by
    rw [ones_app]
    exact wv_dep o.oh w2 ones_len hp
  have d1 : (depV h (ones h) p).length = h.length := by rw [depV_len, ones_len]
  refine ⟨⟨o.ro, by rw [ec]; exact k1, fun j hj => ?_, fun j hj => ?_⟩, ?_⟩
  · rw [besH_len] at hj
    by_cases hl : j < h.length
    · obtain ⟨m, hm, e⟩ := l1.all j hl
      exact ⟨m, w2.meml hm, e⟩
    · obtain ⟨m, hm, e⟩ := l2.all (j - h.length) (by omega)
      exact ⟨_, w2.memr hm, by show m.1 + h.length = j; omega⟩
  · rw [besH_len] at hj
    rw [ed, o.vr, ev]
    by_cases hl : j < h.length
    · rw [getD_l (by rw [d1]; exact hl), getD_l (by rw [v1]; exact hl), getD_l (by rw [versV_len, firstV_len]; exact hl)]
      exact l1.dp j hl
    · obtain ⟨i, rfl⟩ : ∃ i, j = i + h.length := ⟨j - h.length, by omega⟩
      rw [getD_r d1, getD_r v1, getD_r (by rw [versV_len, firstV_len])]
      exact l2.dp i (by omega)
  · rw [swg_eq, swg_eq, swg_eq, o.en, o.vr, ec]
    have el : (endV h (firstV h s) s.st a).length = h.length := by rw [endV_len, o.so.sl]
    exact wv_oth o.oh k3 el v1 el hf
end
end Lt.Mt

namespace Lt.Mt
open PySem

/-! ### drawn strides -/
theorem dep1_le {fd : List Nat} {p : Nat × Nat} {n : Nat} (hp : p.2 + 1 ≤ n) (h : ∀ d ∈ fd, d ≤ n) : ∀ d ∈ dep1 fd p, d ≤ n := by
  intro d hd
  rcases List.mem_or_eq_of_mem_set hd with z | rfl
  · exact h d z
  · by_cases hj : p.1 < fd.length
    · have := h _ (getD_mem (d := 0) hj); omega
    · rw [List.getD_eq_getElem?_getD, List.getElem?_eq_none (by omega)]
      simp; omega
theorem dep_le {n : Nat} : ∀ {ps : List (Nat × Nat)} {fd : List Nat}, (∀ p ∈ ps, p.2 + 1 ≤ n) → (∀ d ∈ fd, d ≤ n) → ∀ d ∈ ps.foldl dep1 fd, d ≤ n
  | [], _, _, h => h
  | p :: ps, fd, hp, h => dep_le (ps := ps) (fun q hq => hp q (by simp [hq])) (dep1_le (hp p (by simp)) h)
theorem depV_le {h : Hs} {n : Nat} : ∀ {sp : List Mv} {fd : List Nat}, (∀ m ∈ sp, ∀ v ∈ m.2, v + 1 ≤ n) → (∀ d ∈ fd, d ≤ n) → ∀ d ∈ depV h fd sp, d ≤ n
  | [], _, _, h => h
  | m :: sp, fd, hm, h => depV_le (sp := sp) (fun q hq => hm q (by simp [hq])) (dep_le (fun p hp => hm m (by simp) p.2 (List.of_mem_zip (show (p.1, p.2) ∈ _ from hp)).2) h)
structure SpD (h : Hs) (m : Mv) : Prop where
  ok : SpOk h m
  b1 : ∀ v ∈ m.2, v ≤ 1
def spBody : Stm := .seq (.asg 6 false (.add (.var 6) (.tup (.cn (.tup (.cn (.var 11) (.cn (.bi .tuple (.cn (.lc [15] (.one 15) (.sq (.idx (.idx (.var 10) (.var 11)) (.int 1))) (.bl true) (.fn 53 (.cn (.var 0) (.cn (.lst (.cn (.int 0) (.cn (.int 0) (.cn (.int 1) .nl)))) .nl))) false) .nl)) .nl))) .nl)))) .nil
theorem sp_loop {l : Nat} {h : Hs} {x1 x2 x3 x4 x5 x7 x8 x9 x12 x13 x14 x15 x16 : Option R} (ok : HsOk h) : ∀ {js : List Nat} {k : Nat} {ts : Tin} {sp : List Mv} {a : Option R}, (∀ j ∈ js, j < h.length) → OkT k ts → k + 10 * js.length ≤ 20000000 → sp.length + js.length ≤ 1000 →
    ∃ a' new ts', forL (turn (FL (l + 2)) (.one 11) spBody) (ns js) [some (.p .tin), x1, x2, x3, x4, x5, some (.p (encMs sp)), x7, x8, x9, some (.p (encH h)), a, x12, x13, x14, x15, x16] ts
      = some (.nx [some (.p .tin), x1, x2, x3, x4, x5, some (.p (encMs (sp ++ new))), x7, x8, x9, some (.p (encH h)), a', x12, x13, x14, x15, x16], ts') ∧ Fa2 (fun j m => m.1 = j ∧ SpD h m) js new ∧ OkT (k + 10 * js.length) ts'
  | [], k, ts, sp, a, _, ot, _, _ => ⟨a, [], ts, by rw [List.append_nil]; rfl, trivial, ot⟩
  | j :: js, k, ts, sp, a, hj, ot, hk, hl => by
    simp only [List.length_cons] at hk hl
    have hj0 := hj j (by simp)
    obtain ⟨f, e⟩ := at_lt hj0
    have fo := ok.fd f (List.mem_of_getElem? e)
    have ee := eyes_at e
    have f8 := fo.el
    obtain ⟨bs, ts1, e1, fa, ot1⟩ := bs_lcD (F := FL (l + 2)) (ρ := [some (.p .tin), x1, x2, x3, x4, x5, some (.p (encMs sp)), x7, x8, x9, some (.p (encH h)), some (.p (.int (j : Nat))), x12, x13, x14, x15, x16]) (ts := ts) (ts1 := ts) (it := .sq (.idx (.idx (.var 10) (.var 11)) (.int 1))) (own := [15]) (tg := .one 15) (elt := .fn 53 (.cn (.var 0) (.cn (.lst (.cn (.int 0) (.cn (.int 0) (.cn (.int 1) .nl)))) .nl))) (l := f.eyes) (enc := fun (n : Nat) => .int (n : Int)) (enc2 := fun (n : Nat) => .int (n : Int)) (k := k) (c := 1) (K := 100000000) (fun _ v => v ≤ 1) (bs_sq (bs_idx (bs_idx (bs_var rfl) (bs_var rfl) (idx_h e)) bs_int fe) rfl) ot (by omega) (by
      intro q hq k' ts ot hk
      obtain ⟨v, ts', e, hv, ot2⟩ := f_of (l := l) (enc := fun (n : Nat) => .int (n : Int)) (xs := [0, 0, 1]) (by simp) (by simp) (fun _ => rfl) ot (by omega)
      refine ⟨_, _, v, ts', rfl, bs_fn (bs_cn (bs_var rfl) (bs_cn (bs_lst (bs_cn bs_int (bs_cn bs_int (bs_cn bs_int bs_nl))) (show 3 ≤ 1000000 by omega)) bs_nl)) e rfl, rfl, ?_, ot2⟩
      simp only [List.mem_cons, List.not_mem_nil, or_false] at hv
      omega)
    have hsp : SpD h (j, bs) := ⟨⟨hj0, by rw [ee]; exact fa.len.symm⟩, fun v hv => by obtain ⟨_, _, z⟩ := fa.mem hv; exact z⟩
    obtain ⟨a', new, ts2, ih, fb, ot2⟩ := sp_loop (l := l) (x1 := x1) (x2 := x2) (x3 := x3) (x4 := x4) (x5 := x5) (x7 := x7) (x8 := x8) (x9 := x9) (x12 := x12) (x13 := x13) (x14 := x14) (x15 := x15) (x16 := x16) ok (js := js) (k := k + 10) (ts := ts1) (sp := sp ++ [(j, bs)]) (a := some (.p (.int (j : Nat)))) (fun q hq => hj q (by simp [hq])) (ot1.mono (by omega)) (by omega) (by simp; omega)
    refine ⟨a', (j, bs) :: new, ts2, ?_, ⟨⟨rfl, hsp⟩, fb⟩, ot2.mono (by simp only [List.length_cons]; omega)⟩
    have st : turn (FL (l + 2)) (.one 11) spBody [some (.p .tin), x1, x2, x3, x4, x5, some (.p (encMs sp)), x7, x8, x9, some (.p (encH h)), a, x12, x13, x14, x15, x16] (.int (j : Nat)) ts
        = some (.nx [some (.p .tin), x1, x2, x3, x4, x5, some (.p (encMs (sp ++ [(j, bs)]))), x7, x8, x9, some (.p (encH h)), some (.p (.int (j : Nat))), x12, x13, x14, x15, x16], ts1) := by
      have e2 : encMs (sp ++ [(j, bs)]) = .tup (sp.map encM ++ [.tup [.int (j : Nat), tns bs]]) := by rw [encMs, List.map_append]; rfl
      rw [e2]
      exact bturn rfl (bx_seq (bx_asg (bs_add (bs_var rfl) (bs_tup (bs_cn (bs_tup (bs_cn (bs_var rfl) (bs_cn (bs_bi (r := .p (tns bs)) (bs_cn e1 bs_nl) rfl) bs_nl)) (show 2 ≤ 1000000 by omega)) bs_nl) (show 1 ≤ 1000000 by omega)) (add_tup1 (by rw [List.length_map]; omega))) rfl) bx_nil)
    show forL _ (D.int (j : Int) :: ns js) _ _ = _
    simp only [forL, st]
    rw [show sp ++ (j, bs) :: new = sp ++ [(j, bs)] ++ new by simp]
    exact ih

/-! ### one ring -/
def encRg (p : List Mv × List Mv) : D := .tup [encMs p.1, encMs p.2]
theorem mul_rep {sp : List Mv} {k : Nat} (h0 : sp ≠ []) (hl : sp.length ≤ 1000) (h1 : 1 ≤ k) (h2 : k ≤ 1000) : mulD (encMs sp) (.int (k : Nat)) = some (.p (encMs (rep k sp))) := by
  show (if (sp.map encM).length ≠ 0 ∧ 1 ≤ ((k : Nat) : Int) ∧ ((k : Nat) : Int) ≤ 1000 ∧ (sp.map encM).length ≤ 1000 then some (R.p (.tup (List.replicate ((k : Nat) : Int).toNat (sp.map encM)).flatten)) else none) = _
  have hp := List.length_pos_iff.mpr h0
  rw [if_pos ⟨by rw [List.length_map]; omega, by omega, by omega, by rw [List.length_map]; exact hl⟩]
  rw [Int.toNat_natCast, encMs, rep, List.map_flatten, List.map_replicate]
def rgBody : Stm := .seq (.asg 6 false (.tup .nl)) (.seq (.for_ (.one 11) (.sq (.fn 54 (.cn (.var 0) (.cn (.lrng (.bi .len (.cn (.var 10) .nl))) (.cn (.bi .len (.cn (.var 10) .nl)) .nl))))) spBody) (.seq (.asg 12 false (.fn 72 (.cn (.var 10) (.cn (.idx (.var 2) (.var 9)) (.cn (.fn 69 (.cn (.var 10) (.cn (.var 6) .nl))) (.cn (.var 6) .nl)))))) (.seq (.ife (.cmp .is_ (.var 12) .non) (.seq (.ret (.bl true)) .nil) .nil) (.seq (.app 3 (.tup (.cn (.idx (.var 12) (.int 0)) (.cn (.mul (.var 6) (.idx (.var 12) (.int 1))) .nl)))) .nil))))
theorem rg_turn {l k n : Nat} {h : Hs} {s : St} {ts : Tin} {sts : D} {rg : List (List Mv × List Mv)} {x1 x4 x5 x6 x7 x8 x9 x10 x11 x12 x13 x14 x15 x16 : Option R} (ok : HsOk h) (so : StOk h s) (h0 : h ≠ []) (hg : ∀ ts, idxD ts sts (.int (n : Nat)) = some (encS s)) (hr : rg.length ≤ 10) (ot : OkT k ts) (hk : k ≤ 1000000) :
    (∃ ts', turn (FL (l + 7)) (.many [9, 10]) rgBody [some (.p .tin), x1, some (.p sts), some (.o1 (rg.map encRg)), x4, x5, x6, x7, x8, x9, x10, x11, x12, x13, x14, x15, x16] (.tup [.int (n : Nat), encH h]) ts = some (.rt (.p (.bl true)), ts') ∧ OkT (k + 3000) ts') ∨
    ∃ ts' sp ms c x, turn (FL (l + 7)) (.many [9, 10]) rgBody [some (.p .tin), x1, some (.p sts), some (.o1 (rg.map encRg)), x4, x5, x6, x7, x8, x9, x10, x11, x12, x13, x14, x15, x16] (.tup [.int (n : Nat), encH h]) ts
      = some (.nx [some (.p .tin), x1, some (.p sts), some (.o1 ((rg ++ [(ms, rep c sp)]).map encRg)), x4, x5, some (.p (encMs sp)), x7, x8, some (.p (.int (n : Nat))), some (.p (encH h)), x, some (.p (.tup [encMs ms, .int (c : Nat)])), x13, x14, x15, x16], ts') ∧ OkT (k + 3000) ts' ∧ LapOk h s ms (rep c sp) ∧ ms.length ≤ 20000 ∧ (rep c sp).length ≤ 1000 := by
  have l8 := ok.l8
  have hp := List.length_pos_iff.mpr h0
  obtain ⟨js, rest, ts1, e1, ot1, pm, ln⟩ := f_pick (l := l + 5) (n := h.length) (goods := List.range h.length) (by simp; omega) ot (by omega)
  rw [List.length_range, Nat.min_self] at ln
  have hrest : rest = [] := by
    have := pm.length_eq
    rw [List.length_append, List.length_range, ln] at this
    exact List.length_eq_zero_iff.mp (by omega)
  subst hrest
  rw [List.append_nil] at pm
  have hj : ∀ j ∈ js, j < h.length := fun j hj => List.mem_range.mp (pm.mem_iff.mp hj)
  obtain ⟨x, sp, ts2, e2, fa, ot2⟩ := sp_loop (l := l + 5) (x1 := x1) (x2 := some (.p sts)) (x3 := some (.o1 (rg.map encRg))) (x4 := x4) (x5 := x5) (x7 := x7) (x8 := x8) (x9 := some (.p (.int (n : Nat)))) (x12 := x12) (x13 := x13) (x14 := x14) (x15 := x15) (x16 := x16) ok (js := js) (k := k + 1000) (ts := ts1) (sp := []) (a := x11) hj ot1 (by omega) (by simp; omega)
  rw [List.nil_append] at e2
  have hs : ∀ m ∈ sp, SpOk h m := fun m hm => by obtain ⟨_, _, z⟩ := fa.mem hm; exact z.2.ok
  have hb : ∀ m ∈ sp, ∀ v ∈ m.2, v + 1 ≤ 2 := fun m hm v hv => by obtain ⟨_, _, z⟩ := fa.mem hm; have := z.2.b1 v hv; omega
  have sl : sp.length = h.length := by rw [← fa.len, ln]
  have all : ∀ j, j < h.length → ∃ m ∈ sp, m.1 = j := fun j hj => by
    obtain ⟨i, hi, e⟩ := List.mem_iff_getElem.mp (pm.mem_iff.mpr (List.mem_range.mpr hj))
    have hi2 : i < sp.length := by rw [← fa.len]; exact hi
    have := fa.at (List.getElem?_eq_getElem hi) (List.getElem?_eq_getElem hi2)
    exact ⟨sp[i], List.getElem_mem _, by rw [this.1, e]⟩
  have hd : ∀ d ∈ depV h (ones h) sp, d ≤ 1000 := fun d hd => by
    have := depV_le (n := 2) hb (fun d hd => by rw [List.eq_of_mem_replicate hd]; omega) d hd
    omega
  have sn : sp ≠ [] := List.length_pos_iff.mp (by omega)
  have hsp : ∀ m ∈ sp, m.1 < h.length := fun m hm => (hs m hm).pl
  have ot3 : OkT (k + 3000) ts2 := ot2.mono (by omega)
  rcases f_met (l := l + 2) (ts := ts2) ok so hs hd (by omega) with e3 | ⟨ms, c, e3, mo, c1, c5, ml, et⟩
  · refine .inl ⟨ts2, ?_, ot3⟩
    exact bturn rfl (bx_seq (bx_asg (bs_tup bs_nl (by decide)) rfl) (bx_seq (bx_for (bs_sq (bs_fn (bs_cn (bs_var rfl) (bs_cn (bs_lrng (bs_bi (bs_cn (bs_var rfl) bs_nl) len_h) (rngD_nat (by omega))) (bs_cn (bs_bi (bs_cn (bs_var rfl) bs_nl) len_h) bs_nl))) e1 cl_ns) rfl) e2) (bx_seq (bx_asg (bs_fn (bs_cn (bs_var rfl) (bs_cn (bs_idx (bs_var rfl) (bs_var rfl) (hg _)) (bs_cn (bs_fn (bs_cn (bs_var rfl) (bs_cn (bs_var rfl) bs_nl)) (f_deep ok hsp) cl_ns) (bs_cn (bs_var rfl) bs_nl)))) e3 rfl) rfl) (bx_rt (bx_ifT (bs_cmp (bs_var rfl) bs_non rfl) (bx_rt (bx_ret bs_bl rfl)))))))
  · refine .inr ⟨ts2, sp, ms, c, x, ?_, ot3, lap_of ok mo c1 all et, ml, by rw [rep_len]; have : c * sp.length ≤ 5 * sp.length := Nat.mul_le_mul_right _ c5; omega⟩
    have e4 : (rg ++ [(ms, rep c sp)]).map encRg = rg.map encRg ++ [.tup [encMs ms, encMs (rep c sp)]] := by rw [List.map_append]; rfl
    rw [e4]
    exact bturn rfl (bx_seq (bx_asg (bs_tup bs_nl (by decide)) rfl) (bx_seq (bx_for (bs_sq (bs_fn (bs_cn (bs_var rfl) (bs_cn (bs_lrng (bs_bi (bs_cn (bs_var rfl) bs_nl) len_h) (rngD_nat (by omega))) (bs_cn (bs_bi (bs_cn (bs_var rfl) bs_nl) len_h) bs_nl))) e1 cl_ns) rfl) e2) (bx_seq (bx_asg (bs_fn (bs_cn (bs_var rfl) (bs_cn (bs_idx (bs_var rfl) (bs_var rfl) (hg _)) (bs_cn (bs_fn (bs_cn (bs_var rfl) (bs_cn (bs_var rfl) bs_nl)) (f_deep ok hsp) cl_ns) (bs_cn (bs_var rfl) bs_nl)))) e3 (nls_cons cl_ms (nls_cons rfl rfl))) rfl) (bx_seq (bx_ifF (bs_cmp (bs_var rfl) bs_non rfl) bx_nil) (bx_seq (bx_app (x := .p (.tup [encMs ms, encMs (rep c sp)])) (bs_tup (bs_cn (bs_idx (d := encMs ms) (bs_var rfl) bs_int rfl) (bs_cn (bs_mul (bs_var rfl) (bs_idx (d := .int (c : Nat)) (bs_var rfl) bs_int rfl) (mul_rep sn (by omega) c1 (by omega))) bs_nl)) (show 2 ≤ 1000000 by omega)) rfl (by rw [List.length_map]; show _ < 1000000; omega)) bx_nil)))))
end Lt.Mt

namespace Lt.Mt
open PySem

/-! ### _law_laps_right -/
theorem in_bools {b1 b2 : Bool} : cmpD .in_ (.bl true) (.lst [.bl b1, .bl b2]) = some (b1 || b2) := by
  have e : cmpD .in_ (.bl true) (.lst [.bl b1, .bl b2]) = if (D.bl true).ok && (D.lst [.bl b1, .bl b2]).ok then some ([D.bl b1, D.bl b2].any fun z => deq z (.bl true)) else none := rfl
  rw [e]
  cases b1 <;> cases b2 <;> rfl
theorem fl_nx {f : Env → D → Ev Out} {x : D} {xs : List D} {ρ ρ1 : Env} {ts ts1 : Tin} {q : Option (Out × Tin)} (h : f ρ x ts = some (.nx ρ1, ts1)) (h2 : forL f xs ρ1 ts1 = q) : forL f (x :: xs) ρ ts = q := by simp only [forL, h, h2]
theorem fl_rt {f : Env → D → Ev Out} {x : D} {xs : List D} {ρ : Env} {ts ts1 : Tin} {r : R} (h : f ρ x ts = some (.rt r, ts1)) : forL f (x :: xs) ρ ts = some (.rt r, ts1) := by simp only [forL, h]
section
variable {h g : Hs} {s t : St}
theorem f_laps_right {l k : Nat} {ts : Tin} (oh : HsOk h) (og : HsOk g) (h0 : h ≠ []) (g0 : g ≠ []) (l8 : h.length + g.length ≤ 8) (so : StOk h s) (to : StOk g t) (ot : OkT k ts) (hk : k ≤ 500000) :
    ∃ ts', FL (l + 12) 74 [.tin, .lst [encH h, encH g], .lst [encS s, encS t]] ts = some (.p (.bl true), ts') ∧ OkT (k + 300000) ts' := by
  have en : enmD 0 [encH h, encH g] = [.tup [.int ((0 : Nat) : Int), encH h], .tup [.int ((1 : Nat) : Int), encH g]] := rfl
  have hE : evI (FL (l + 11)) (.enm (.var 1)) [some (.p .tin), some (.p (.lst [encH h, encH g])), some (.p (.lst [encS s, encS t])), some (.o1 []), none, none, none, none, none, none, none, none, none, none, none, none, none] ts = some ([.tup [.int ((0 : Nat) : Int), encH h], .tup [.int ((1 : Nat) : Int), encH g]], ts) := by rw [← en]; exact bs_enm (bs_var rfl) rfl
  have s0 : ex (FL (l + 11)) (.asg 3 true (.lst .nl)) [some (.p .tin), some (.p (.lst [encH h, encH g])), some (.p (.lst [encS s, encS t])), none, none, none, none, none, none, none, none, none, none, none, none, none, none] ts = some (.nx [some (.p .tin), some (.p (.lst [encH h, encH g])), some (.p (.lst [encS s, encS t])), some (.o1 []), none, none, none, none, none, none, none, none, none, none, none, none, none], ts) := bx_asg (bs_lst bs_nl (by decide)) rfl
  rcases rg_turn (l := l + 4) (n := 0) (h := h) (s := s) (ts := ts) (sts := .lst [encS s, encS t]) (rg := []) (x1 := some (.p (.lst [encH h, encH g]))) (x4 := none) (x5 := none) (x6 := none) (x7 := none) (x8 := none) (x9 := none) (x10 := none) (x11 := none) (x12 := none) (x13 := none) (x14 := none) (x15 := none) (x16 := none) oh so h0 (fun _ => rfl) (by simp) ot (by omega) with ⟨ts1, e1, ot1⟩ | ⟨ts1, sp1, a, k1, y, e1, ot1, l1, la, lp⟩
  · refine ⟨ts1, ?_, ot1.mono (by omega)⟩
    exact FL_rt rfl rfl (bx_seq s0 (bx_rt (bx_for hE (fl_rt e1))))
  generalize hp : rep k1 sp1 = p at e1 l1 lp
  rcases rg_turn (l := l + 4) (n := 1) (h := g) (s := t) (ts := ts1) (sts := .lst [encS s, encS t]) (rg := [(a, p)]) (x1 := some (.p (.lst [encH h, encH g]))) (x4 := none) (x5 := none) (x6 := some (.p (encMs sp1))) (x7 := none) (x8 := none) (x9 := some (.p (.int ((0 : Nat) : Int)))) (x10 := some (.p (encH h))) (x11 := y) (x12 := some (.p (.tup [encMs a, .int (k1 : Nat)]))) (x13 := none) (x14 := none) (x15 := none) (x16 := none) og to g0 (fun _ => rfl) (by simp) ot1 (by omega) with ⟨ts2, e2, ot2⟩ | ⟨ts2, sp2, b, k2, x11, e2, ot2, l2, lb, lq⟩
  · refine ⟨ts2, ?_, ot2.mono (by omega)⟩
    exact FL_rt rfl rfl (bx_seq s0 (bx_rt (bx_for hE (fl_nx e1 (fl_rt e2)))))
  generalize hq : rep k2 sp2 = q at e2 l2 lq
  obtain ⟨c, ts4, e5, w1, ot4⟩ := f_woven (l := l + 9) (n := h.length) (A := a) (B := b) (by omega) ot2 (by omega)
  obtain ⟨r, ts5, e6, w2, ot5⟩ := f_woven (l := l + 9) (n := h.length) (A := p) (B := q) (by omega) ot4 (by omega)
  have o : BesOk h g s t a b c := ⟨oh, og, l8, so, to, l1.ro, l2.ro, w1, by omega⟩
  obtain ⟨lap, sw⟩ := lap_both o w2 l1 l2
  have ro2 := gone_ok lap.ro lap.rc
  have gl := gone_len (h := besH h g) (s := besS s t) (ms := c) (sp := r)
  have c1 := w1.len
  have c2 := w2.len
  have ga := gone_len (h := h) (s := s) (ms := a) (sp := p)
  have gb := gone_len (h := g) (s := t) (ms := b) (sp := q)
  have sh := oh.l8
  have sg := og.l8
  have ein : cmpD .in_ (.bl true) (.lst [.bl (swgV h s a p), .bl (swgV g t b q)]) = some (swgV (besH h g) (besS s t) c r) := by rw [in_bools, sw]
  have bp : bpd 1 (.lst [.bl true, .bl (swgV (besH h g) (besS s t) c r), .bl true]) = true := rfl
  have eS := f_same (l := l + 9) (ts := ts5) bp
  have eF : forL (turn (FL (l + 11)) (.many [9, 10]) rgBody) [.tup [.int ((0 : Nat) : Int), encH h], .tup [.int ((1 : Nat) : Int), encH g]] [some (.p .tin), some (.p (.lst [encH h, encH g])), some (.p (.lst [encS s, encS t])), some (.o1 []), none, none, none, none, none, none, none, none, none, none, none, none, none] ts
      = some (.nx [some (.p .tin), some (.p (.lst [encH h, encH g])), some (.p (.lst [encS s, encS t])), some (.o1 [encRg (a, p), encRg (b, q)]), none, none, some (.p (encMs sp2)), none, none, some (.p (.int (1 : Nat))), some (.p (encH g)), x11, some (.p (.tup [encMs b, .int (k2 : Nat)])), none, none, none, none], ts2) := fl_nx e1 (fl_nx e2 rfl)
  refine ⟨ts5, ?_, ot5.mono (by omega)⟩
  refine FL_rt rfl rfl (bx_seq s0 (bx_seq (bx_for hE eF)
    (bx_seq (ρ1 := [some (.p .tin), some (.p (.lst [encH h, encH g])), some (.p (.lst [encS s, encS t])), some (.o1 [encRg (a, p), encRg (b, q)]), none, none, some (.p (encMs sp2)), none, none, some (.p (.int (1 : Nat))), some (.p (encH g)), x11, some (.p (.tup [encMs b, .int (k2 : Nat)])), some (.p (.int (h.length : Nat))), some (.p (encH (besH h g))), none, none]) (bx_par (bs_bi (bs_cn (bs_idx (bs_var rfl) bs_int rfl) bs_nl) len_h) (bs_fn (bs_cn (bs_idx (bs_var rfl) bs_int rfl) (bs_cn (bs_idx (bs_var rfl) bs_int rfl) bs_nl)) (f_beside oh og l8) cl_h) rfl rfl)
    (bx_seq (ρ1 := [some (.p .tin), some (.p (.lst [encH h, encH g])), some (.p (.lst [encS s, encS t])), some (.o1 [encRg (a, p), encRg (b, q)]), some (.p (encS (besS s t))), none, some (.p (encMs sp2)), none, none, some (.p (.int (1 : Nat))), some (.p (encH g)), x11, some (.p (.tup [encMs b, .int (k2 : Nat)])), some (.p (.int (h.length : Nat))), some (.p (encH (besH h g))), none, none]) (bx_asg (bs_start (s := s) (t := t) rfl (fun _ _ => rfl) (fun _ _ => rfl) (fun _ _ => rfl) (by rw [so.sl, to.sl]; omega) (by rw [so.ol, to.ol]; omega)) rfl)
    (bx_seq (ρ1 := [some (.p .tin), some (.p (.lst [encH h, encH g])), some (.p (.lst [encS s, encS t])), some (.o1 [encRg (a, p), encRg (b, q)]), some (.p (encS (besS s t))), some (.p (encR (besS s t) c)), some (.p (encMs sp2)), none, none, some (.p (.int (1 : Nat))), some (.p (encH g)), x11, some (.p (.tup [encMs b, .int (k2 : Nat)])), some (.p (.int (h.length : Nat))), some (.p (encH (besH h g))), none, none]) (bx_asg (r := .p (encR (besS s t) c)) (ts1 := ts4) (bs_brw (bs_tup (bs_cn (bs_var rfl) (bs_cn (bs_fn (bs_cn (bs_var rfl) (bs_cn (bs_idx (d := encMs a) (bs_idx (d := encRg (a, p)) (bs_var rfl) bs_int rfl) bs_int rfl) (bs_cn (bs_idx (d := encMs b) (bs_idx (d := encRg (b, q)) (bs_var rfl) bs_int rfl) bs_int rfl) (bs_cn (bs_var rfl) bs_nl)))) e5 cl_ms) bs_nl)) (show 2 ≤ 1000000 by omega)) (cl_r (s := besS s t) (ms := c))) rfl)
    (bx_seq (ρ1 := [some (.p .tin), some (.p (.lst [encH h, encH g])), some (.p (.lst [encS s, encS t])), some (.o1 [encRg (a, p), encRg (b, q)]), some (.p (encS (besS s t))), some (.p (encR (besS s t) c)), some (.p (encMs r)), none, none, some (.p (.int (1 : Nat))), some (.p (encH g)), x11, some (.p (.tup [encMs b, .int (k2 : Nat)])), some (.p (.int (h.length : Nat))), some (.p (encH (besH h g))), none, none]) (bx_asg (r := .p (encMs r)) (ts1 := ts5) (bs_brw (bs_fn (bs_cn (bs_var rfl) (bs_cn (bs_idx (d := encMs p) (bs_idx (d := encRg (a, p)) (bs_var rfl) bs_int rfl) bs_int rfl) (bs_cn (bs_idx (d := encMs q) (bs_idx (d := encRg (b, q)) (bs_var rfl) bs_int rfl) bs_int rfl) (bs_cn (bs_var rfl) bs_nl)))) e6 cl_ms) cl_ms) rfl)
    (bx_seq (ρ1 := [some (.p .tin), some (.p (.lst [encH h, encH g])), some (.p (.lst [encS s, encS t])), some (.o1 [encRg (a, p), encRg (b, q)]), some (.p (encS (besS s t))), some (.p (encR (besS s t) c)), some (.p (encMs r)), some (.p (.lst [.bl (swgV h s a p), .bl (swgV g t b q)])), none, some (.p (.int (1 : Nat))), some (.p (encH g)), x11, some (.p (.tup [encMs b, .int (k2 : Nat)])), some (.p (.int (h.length : Nat))), some (.p (encH (besH h g))), none, none]) (bx_asg (r := .o1 [.bl (swgV h s a p), .bl (swgV g t b q)]) (ts1 := ts5) (bs_brw ?fine rfl) rfl)
    (bx_seq (ρ1 := [some (.p .tin), some (.p (.lst [encH h, encH g])), some (.p (.lst [encS s, encS t])), some (.o1 [encRg (a, p), encRg (b, q)]), some (.p (encS (besS s t))), some (.p (encR (besS s t) c)), some (.p (encMs r)), some (.p (.lst [.bl (swgV h s a p), .bl (swgV g t b q)])), some (.o1 [.bl true, .bl (swgV (besH h g) (besS s t) c r)]), some (.p (.int (1 : Nat))), some (.p (encH g)), x11, some (.p (.tup [encMs b, .int (k2 : Nat)])), some (.p (.int (h.length : Nat))), some (.p (encH (besH h g))), none, none]) (bx_asg (r := .o1 [.bl true, .bl (swgV (besH h g) (besS s t) c r)]) (ts1 := ts5) (bs_lst (bs_cn (bs_fn (bs_cn (bs_var rfl) (bs_cn (bs_tup (bs_cn (bs_var rfl) (bs_cn (bs_var rfl) bs_nl)) (show 2 ≤ 1000000 by omega)) bs_nl)) (f_islap o.oH o.sO lap ro2 (by omega) (by omega)) rfl) (bs_cn (bs_fn (bs_cn (bs_var rfl) (bs_cn (bs_tup (bs_cn (bs_var rfl) (bs_cn (bs_var rfl) bs_nl)) (show 2 ≤ 1000000 by omega)) bs_nl)) (f_swings o.oH o.sO o.ro lap.rc ro2 (by omega) (by omega) (by omega)) rfl) bs_nl)) (show 2 ≤ 1000000 by omega)) rfl)
    (bx_seq (ρ1 := [some (.p .tin), some (.p (.lst [encH h, encH g])), some (.p (.lst [encS s, encS t])), some (.o1 [encRg (a, p), encRg (b, q)]), some (.p (encS (besS s t))), some (.p (encR (besS s t) c)), some (.p (encMs r)), some (.p (.lst [.bl (swgV h s a p), .bl (swgV g t b q)])), some (.o1 [.bl true, .bl (swgV (besH h g) (besS s t) c r), .bl true]), some (.p (.int (1 : Nat))), some (.p (encH g)), x11, some (.p (.tup [encMs b, .int (k2 : Nat)])), some (.p (.int (h.length : Nat))), some (.p (encH (besH h g))), none, none]) (bx_app (xs := [.bl true, .bl (swgV (besH h g) (besS s t) c r)]) (x := .p (.bl true)) (ts1 := ts5) (bs_fn (bs_cn (bs_var rfl) (bs_cn (bs_fn (bs_cn (bs_var rfl) (bs_cn (bs_var rfl) (bs_cn (bs_var rfl) bs_nl))) (f_gone o.oH o.sO (run_pl o.ro) lap.rc (by omega)) cl_r) bs_nl)) (f_isrun o.oH o.sO ro2) rfl) rfl (show 2 < 1000000 by omega))
    (bx_rt (bx_ret (r := .p (.bl true)) (bs_brw (bs_fn (bs_cn (bs_var rfl) (bs_cn (bs_lst (bs_cn bs_bl (bs_cn (bs_cmp (k := swgV (besH h g) (besS s t) c r) bs_bl (bs_var rfl) ein) (bs_cn bs_bl bs_nl))) (show 3 ≤ 1000000 by omega)) bs_nl)) eS rfl) rfl) rfl)))))))))
  ))
  case fine =>
    refine bs_lc (l := [((0 : Nat), encH h, D.bl (swgV h s a p)), (1, encH g, D.bl (swgV g t b q))]) (enc := fun p => .tup [.int (p.1 : Nat), p.2.1]) (fun p => p.2.2) (bs_enm (xs := [encH h, encH g]) (bs_var rfl) rfl) fun z hz => ?_
    simp only [List.mem_cons, List.not_mem_nil, or_false] at hz
    rcases hz with rfl | rfl
    · exact ⟨_, _, rfl, bs_fn (bs_cn (bs_var rfl) (bs_cn (bs_tup (bs_cn (bs_tup (bs_cn (bs_idx (d := encS s) (bs_var rfl) (bs_var rfl) rfl) (bs_cn (bs_idx (d := encMs a) (bs_idx (d := encRg (a, p)) (bs_var rfl) (bs_var rfl) rfl) bs_int rfl) bs_nl)) (show 2 ≤ 1000000 by omega)) (bs_cn (bs_idx (d := encMs p) (bs_idx (d := encRg (a, p)) (bs_var rfl) (bs_var rfl) rfl) bs_int rfl) bs_nl)) (show 2 ≤ 1000000 by omega)) bs_nl)) (f_swings oh so l1.ro l1.rc (gone_ok l1.ro l1.rc) (by omega) (by omega) (by omega)) rfl, rfl⟩
    · exact ⟨_, _, rfl, bs_fn (bs_cn (bs_var rfl) (bs_cn (bs_tup (bs_cn (bs_tup (bs_cn (bs_idx (d := encS t) (bs_var rfl) (bs_var rfl) rfl) (bs_cn (bs_idx (d := encMs b) (bs_idx (d := encRg (b, q)) (bs_var rfl) (bs_var rfl) rfl) bs_int rfl) bs_nl)) (show 2 ≤ 1000000 by omega)) (bs_cn (bs_idx (d := encMs q) (bs_idx (d := encRg (b, q)) (bs_var rfl) (bs_var rfl) rfl) bs_int rfl) bs_nl)) (show 2 ≤ 1000000 by omega)) bs_nl)) (f_swings og to l2.ro l2.rc (gone_ok l2.ro l2.rc) (by omega) (by omega) (by omega)) rfl, rfl⟩
end
end Lt.Mt

namespace Lt.Mt
open PySem

/-! ### lean: what matters alone -/
theorem filter_sub {sub es : List Nat} (s : sub.Sublist es) (nd : es.Nodup) : es.filter (fun e => decide (e ∈ sub)) = sub := by
  induction s with
  | slnil => rfl
  | @cons l1 l2 a s ih =>
    have nd2 := List.nodup_cons.mp nd
    have ha : a ∉ l1 := fun z => nd2.1 (s.subset z)
    rw [List.filter_cons_of_neg (by simpa using ha)]
    exact ih nd2.2
  | @cons_cons l1 l2 a s ih =>
    have nd2 := List.nodup_cons.mp nd
    rw [List.filter_cons_of_pos (by simp)]
    congr 1
    rw [← ih nd2.2]
    refine List.filter_congr fun e he => ?_
    have : e ≠ a := fun z => nd2.1 (by rwa [← z])
    rw [ih nd2.2]
    simp [this]
theorem eyes_nd {h : Hs} {j : Nat} (ok : HsOk h) : (eyesOf h j).Nodup := by
  unfold eyesOf
  split
  · rename_i f e
    exact (ok.fd f (List.mem_of_getElem? e)).er.imp fun {a b} (z : a < b) => by omega
  · exact List.nodup_nil
theorem zip_fst : ∀ {e s : List Nat}, s.length = e.length → (e.zip s).map (·.1) = e
  | [], [], _ => rfl
  | a :: e, b :: s, h => by simp [zip_fst (e := e) (s := s) (by simpa using h)]
  | [], _ :: _, h => by simp at h
  | _ :: _, [], h => by simp at h
theorem zip_unzip : ∀ {Q : List (Nat × Nat)}, (Q.map (·.1)).zip (Q.map (·.2)) = Q
  | [] => rfl
  | q :: Q => by simp [zip_unzip (Q := Q)]
def slimQ (h : Hs) (m : Mv) : List (Nat × Nat) := ((eyesOf h m.1).zip m.2).filter fun p => decide (p.1 ∈ mats h m.1)
def slimM (h : Hs) (m : Mv) : Mv := (m.1, (slimQ h m).map (·.2))
theorem slim_fst {h : Hs} {m : Mv} (ok : HsOk h) (ln : m.2.length = (eyesOf h m.1).length) : (slimQ h m).map (·.1) = mats h m.1 := by
  have e : (slimQ h m).map (·.1) = (((eyesOf h m.1).zip m.2).map (·.1)).filter fun e => decide (e ∈ mats h m.1) := by
    rw [slimQ, List.filter_map]; rfl
  rw [e, zip_fst ln]
  exact filter_sub mats_sublist (eyes_nd ok)
theorem atR_q {F : Nat × Nat → Nat} : ∀ {Q : List (Nat × Nat)} {p : Nat × Nat}, (Q.map (·.1)).Nodup → p ∈ Q → atR (Q.map (·.1)) (Q.map F) p.1 = F p
  | [], _, _, h => by simp at h
  | q :: Q, p, nd, h => by
    have nd2 := List.nodup_cons.mp nd
    simp only [List.map_cons, atR]
    rcases List.mem_cons.mp h with rfl | h
    · simp
    · have : q.1 ≠ p.1 := fun z => nd2.1 (List.mem_map.mpr ⟨p, h, z.symm⟩)
      rw [if_neg this]
      exact atR_q nd2.2 h
theorem mats_at {h : Hs} {j i e : Nat} (ok : HsOk h) (he : (eyesOf h j)[i]? = some e) : e ∈ mats h j ↔ matB h j i = true := by
  simp only [mats, List.mem_map, List.mem_filter]
  constructor
  · rintro ⟨p, ⟨hp, hb⟩, rfl⟩
    have e2 := List.mem_zipIdx_iff_getElem?.mp hp
    obtain ⟨h1, h2⟩ := List.getElem?_eq_some_iff.mp he
    obtain ⟨h3, h4⟩ := List.getElem?_eq_some_iff.mp e2
    have : i = p.2 := (List.getElem_inj (eyes_nd ok)).mp (by rw [h2, h4])
    rw [this]; exact hb
  · intro hb
    exact ⟨(e, i), ⟨List.mem_zipIdx_iff_getElem?.mpr he, hb⟩, rfl⟩
theorem vr_two {h : Hs} {F G : Nat × Nat → Nat} : ∀ {A B : List (Nat × Nat)}, (∀ p ∈ A, G p < szs h p.1) → (∀ p ∈ B, F p < szs h p.1) → Vr (A.map G ++ B.map F) (((A ++ B).map (·.1)).map (szs h))
  | [], [], _, _ => trivial
  | [], b :: B, hA, hB => ⟨hB b (by simp), vr_two (A := []) (B := B) hA fun p hp => hB p (by simp [hp])⟩
  | a :: A, B, hA, hB => ⟨hA a (by simp), vr_two (A := A) (B := B) (fun p hp => hA p (by simp [hp])) hB⟩
/-- what does not matter may be a zero -/
theorem zero_ok {h : Hs} {j : Nat} {L : List (Nat × Nat)} {F : Nat × Nat → Nat} (ok : HsOk h) (hL : L.map (·.1) = eyesOf h j) (hF : ∀ p ∈ L, F p < szs h p.1) : ∀ {B A : List (Nat × Nat)}, A ++ B = L → tabAt h j (A.map (fun p => if p.1 ∈ mats h j then F p else 0) ++ B.map F) = tabAt h j (L.map fun p => if p.1 ∈ mats h j then F p else 0)
  | [], A, e => by rw [List.append_nil] at e; subst e; simp
  | p :: B, A, e => by
    have ih := zero_ok ok hL hF (B := B) (A := A ++ [p]) (by rw [← e]; simp)
    rw [← ih]
    have hp : ∀ q ∈ A, q ∈ L := fun q hq => by rw [← e]; simp [hq]
    have hb : ∀ q ∈ p :: B, q ∈ L := fun q hq => by rw [← e]; exact List.mem_append.mpr (.inr hq)
    have sp : ∀ q ∈ L, 0 < szs h q.1 := fun q hq => Nat.lt_of_le_of_lt (Nat.zero_le _) (hF q hq)
    have vr : Vr (A.map (fun p => if p.1 ∈ mats h j then F p else 0) ++ (p :: B).map F) ((eyesOf h j).map (szs h)) := by
      rw [← hL, ← e]
      refine vr_two (fun q hq => ?_) fun q hq => hF q (hb q hq)
      split
      · exact hF q (hp q hq)
      · exact sp q (hp q hq)
    have ei : (eyesOf h j)[A.length]? = some p.1 := by rw [← hL, ← e]; simp
    by_cases hm : p.1 ∈ mats h j
    · simp [hm]
    · have hmb : matB h j A.length = false := by
        cases hh : matB h j A.length with
        | false => rfl
        | true => exact absurd ((mats_at ok ei).mpr hh) hm
      have z := List.any_eq_false.mp hmb _ (allR_mem.mpr vr)
      have z2 : tabAt h j (A.map (fun p => if p.1 ∈ mats h j then F p else 0) ++ (p :: B).map F) = tabAt h j ((A.map (fun p => if p.1 ∈ mats h j then F p else 0) ++ (p :: B).map F).set A.length 0) := by
        simpa using z
      rw [z2]
      congr 1
      rw [List.set_append_right _ _ (by simp)]
      simp [hm]
theorem seen_map {h : Hs} {rows : List (List Nat)} {j : Nat} {s : List Nat} : seenV h rows j s = ((eyesOf h j).zip s).map fun p => (rows.getD p.1 []).getD p.2 0 := rfl
theorem lean_len {h : Hs} : (leanH h).length = h.length := by simp [leanH]
theorem lean_at {h : Hs} {j : Nat} (hj : j < h.length) : (leanH h)[j]? = some (leanF h j) := by
  rw [leanH, List.getElem?_map, List.getElem?_range hj]; rfl
theorem lean_f {h : Hs} {j : Nat} {f : Fd} (e : h[j]? = some f) : leanF h j = ⟨f.vals, mats h j, (allR ((mats h j).map (szs h))).map fun row => tabAt h j (fillR f.eyes (mats h j) row)⟩ := by simp only [leanF, e]
theorem lean_szs {h : Hs} {j : Nat} : szs (leanH h) j = szs h j := by
  by_cases hj : j < h.length
  · obtain ⟨f, e⟩ := at_lt hj
    rw [szs_f (lean_at hj), szs_f e, lean_f e]
  · simp only [szs]
    rw [List.getElem?_eq_none (by rw [lean_len]; omega), List.getElem?_eq_none (by omega)]
theorem lean_eyes {h : Hs} {j : Nat} (hj : j < h.length) : eyesOf (leanH h) j = mats h j := by
  obtain ⟨f, e⟩ := at_lt hj
  rw [eyes_at (lean_at hj), lean_f e]
theorem lean_tab {h : Hs} {j : Nat} {row : List Nat} (hj : j < h.length) (hv : Vr row ((mats h j).map (szs h))) : tabAt (leanH h) j row = tabAt h j (fillR (eyesOf h j) (mats h j) row) := by
  obtain ⟨f, e⟩ := at_lt hj
  have e1 : tabAt (leanH h) j row = ((allR ((mats h j).map (szs h))).map fun row => tabAt h j (fillR f.eyes (mats h j) row)).getD (hor (row.zip ((mats h j).map (szs h)))) 0 := by
    simp only [tabAt, lean_at hj, lean_f e]
    congr 3
    exact List.map_congr_left fun q _ => lean_szs
  rw [e1, List.getD_eq_getElem?_getD, List.getElem?_map, allR_at hv, eyes_at e]
  rfl
theorem prod_sub {sub es : List Nat} (s : sub.Sublist es) (hp : ∀ e ∈ es, 0 < e) : prodL sub ≤ prodL es := by
  induction s with
  | slnil => exact Nat.le_refl _
  | @cons l1 l2 a s ih =>
    rw [prodL_cons]
    have h1 := ih fun e he => hp e (by simp [he])
    have h2 := hp a (by simp)
    exact Nat.le_trans h1 (Nat.le_mul_of_pos_left _ h2)
  | @cons_cons l1 l2 a s ih =>
    rw [prodL_cons, prodL_cons]
    exact Nat.mul_le_mul_left _ (ih fun e he => hp e (by simp [he]))
theorem lean_ok {h : Hs} (ok : HsOk h) : HsOk (leanH h) := by
  refine ⟨by rw [lean_len]; exact ok.l8, fun g hg => ?_⟩
  obtain ⟨j, hj, rfl⟩ := List.mem_map.mp hg
  have hj := List.mem_range.mp hj
  obtain ⟨f, e⟩ := at_lt hj
  have fo := ok.fd f (List.mem_of_getElem? e)
  have ee := eyes_at e
  have sl := mats_sublist (h := h) (j := j)
  rw [ee] at sl
  have ms : (mats h j).map (szs (leanH h)) = (mats h j).map (szs h) := List.map_congr_left fun q _ => lean_szs
  rw [lean_f e]
  refine ⟨fo.v0, fo.v5, fo.vn, fo.vm, fo.er.sublist sl, Nat.le_trans sl.length_le fo.el, fun q hq => by rw [lean_len]; exact fo.eh q (sl.subset hq), fun t ht => ?_, ?_, ?_⟩
  · obtain ⟨r, hr, rfl⟩ := List.mem_map.mp ht
    have := tabAt_lt ok e (fill_ok ok e (allR_mem.mp hr))
    rw [szs_f e] at this
    exact this
  · show ((allR ((mats h j).map (szs h))).map _).length = prodL ((mats h j).map (szs (leanH h)))
    rw [List.length_map, allR_len, ms]
  · show ((allR ((mats h j).map (szs h))).map _).length ≤ 60
    rw [List.length_map, allR_len]
    refine Nat.le_trans (prod_sub (sl.map (szs h)) fun s hs => ?_) (by rw [← fo.tl]; exact fo.t60)
    obtain ⟨q, hq, rfl⟩ := List.mem_map.mp hs
    exact szs_pos ok (fo.eh q hq)
theorem lean_mv {h : Hs} {rows : List (List Nat)} {m : Mv} (ok : HsOk h) (rw_ : RwOk h rows) (mo : MvOk h rows m) : MvOk (leanH h) rows (slimM h m) ∧ valBy (leanH h) rows (slimM h m).1 (slimM h m).2 = valBy h rows m.1 m.2 := by
  have e1 := slim_fst ok mo.ln
  have ez : (mats h m.1).zip ((slimQ h m).map (·.2)) = slimQ h m := by rw [← e1]; exact zip_unzip
  have le := lean_eyes mo.pl
  have nd : (mats h m.1).Nodup := (eyes_nd ok).sublist mats_sublist
  have hF : ∀ p ∈ (eyesOf h m.1).zip m.2, (rows.getD p.1 []).getD p.2 0 < szs h p.1 := fun p hp => by
    have hb := mo.bd p hp
    exact rw_.lt p.1 (eyes_lt ok (List.of_mem_zip (show (p.1, p.2) ∈ _ from hp)).1) _ (getD_mem hb)
  have hQ : ∀ p ∈ slimQ h m, p ∈ (eyesOf h m.1).zip m.2 := fun p hp => (List.mem_filter.mp hp).1
  constructor
  · refine ⟨by show m.1 < _; rw [lean_len]; exact mo.pl, ?_, fun p hp => ?_⟩
    · show ((slimQ h m).map (·.2)).length = (eyesOf (leanH h) m.1).length
      rw [le, ← e1, List.length_map, List.length_map]
    · replace hp : p ∈ (eyesOf (leanH h) m.1).zip ((slimQ h m).map (·.2)) := hp
      rw [le, ez] at hp
      exact mo.bd p (hQ p hp)
  · have es : seenV (leanH h) rows m.1 ((slimQ h m).map (·.2)) = (slimQ h m).map fun p => (rows.getD p.1 []).getD p.2 0 := by rw [seen_map, le, ez]
    have hv : Vr ((slimQ h m).map fun p => (rows.getD p.1 []).getD p.2 0) ((mats h m.1).map (szs h)) := by
      have := vr_two (h := h) (A := []) (B := slimQ h m) (F := fun p => (rows.getD p.1 []).getD p.2 0) (G := fun _ => 0) (by simp) fun p hp => hF p (hQ p hp)
      rw [List.nil_append, e1] at this
      exact this
    show tabAt (leanH h) m.1 (seenV (leanH h) rows m.1 ((slimQ h m).map (·.2))) = tabAt h m.1 (seenV h rows m.1 m.2)
    rw [es, lean_tab mo.pl hv]
    have ef : fillR (eyesOf h m.1) (mats h m.1) ((slimQ h m).map fun p => (rows.getD p.1 []).getD p.2 0) = ((eyesOf h m.1).zip m.2).map fun p => if p.1 ∈ mats h m.1 then (rows.getD p.1 []).getD p.2 0 else 0 := by
      have e2 : (eyesOf h m.1) = ((eyesOf h m.1).zip m.2).map (·.1) := (zip_fst mo.ln).symm
      rw [fillR]
      conv => lhs; rw [e2]
      rw [List.map_map]
      refine List.map_congr_left fun p hp => ?_
      simp only [Function.comp]
      split
      · rename_i hm
        have hq : p ∈ slimQ h m := List.mem_filter.mpr ⟨hp, by simpa using hm⟩
        have := atR_q (F := fun p => (rows.getD p.1 []).getD p.2 0) (Q := slimQ h m) (p := p) (by rw [e1]; exact nd) hq
        rw [e1] at this
        exact this
      · rename_i hm; exact atR_not hm
    rw [ef, seen_map]
    exact (zero_ok ok (zip_fst mo.ln) hF (A := []) (B := (eyesOf h m.1).zip m.2) rfl).symm
theorem lean_run {h : Hs} (ok : HsOk h) : ∀ {ms : List Mv} {rows : List (List Nat)}, RwOk h rows → RunOk h rows ms → RunOk (leanH h) rows (ms.map (slimM h)) ∧ wrV (leanH h) rows (ms.map (slimM h)) = wrV h rows ms
  | [], _, _, _ => ⟨trivial, rfl⟩
  | m :: ms, rows, rw_, ro => by
    obtain ⟨h1, h2⟩ := lean_mv ok rw_ ro.1
    have e : stepV (leanH h) rows (slimM h m) = stepV h rows m := by
      rw [stepV, stepV, h2]; rfl
    obtain ⟨h3, h4⟩ := lean_run ok (ms := ms) (stepV_ok ok rw_ ro.1) ro.2
    refine ⟨⟨h1, by rw [e]; exact h3⟩, ?_⟩
    rw [List.map_cons, wrV, wrV, e, h4, h2]
theorem first_same {h g : Hs} {s : St} (e : g.length = h.length) : firstV g s = firstV h s := by rw [firstV, firstV, e]
theorem st_same {h g : Hs} {s : St} (e : g.length = h.length) (z : ∀ j, szs g j = szs h j) (so : StOk h s) : StOk g s :=
  ⟨by rw [e]; exact so.sl, by rw [e]; exact so.ol, fun j hj => so.mem j (by rw [← e]; exact hj), so.ris, so.o8, fun j hj v hv => by rw [z]; exact so.lt j (by rw [← e]; exact hj) v hv⟩

/-! ### other names -/
structure Same (g h : Hs) : Prop where
  ln : g.length = h.length
  sz : ∀ j, szs g j = szs h j
  ey : ∀ j, eyesOf g j = eyesOf h j
  tb : ∀ j r, tabAt g j r = tabAt h j r
theorem ren_same {h : Hs} (ok : HsOk h) : Same (renH h) h := by
  cases h with
  | nil => exact ⟨rfl, fun _ => rfl, fun _ => rfl, fun _ _ => rfl⟩
  | cons f r =>
    have f0 := ok.fd f (by simp)
    have vl : (renF f).vals.length = f.vals.length := by
      simp only [renF, List.length_cons, List.length_tail]
      have := List.length_pos_iff.mpr f0.v0
      omega
    have sz : ∀ p, szs (renH (f :: r)) p = szs (f :: r) p := fun p => by
      cases p with
      | zero => simp only [renH, szs, List.getElem?_cons_zero]; exact vl
      | succ p => simp [renH, szs]
    have sm : ∀ l : List Nat, l.map (szs (renH (f :: r))) = l.map (szs (f :: r)) := fun l => List.map_congr_left fun q _ => sz q
    refine ⟨rfl, sz, fun j => ?_, fun j rr => ?_⟩
    · cases j <;> simp [renH, eyesOf, renF]
    · cases j with
      | zero =>
        simp only [tabAt, sm]
        simp [renH, renF]
      | succ j =>
        simp only [tabAt, sm]
        simp [renH]
section
variable {g h : Hs} (sm : Same g h)
include sm
theorem sm_val {rows : List (List Nat)} {j : Nat} {s : List Nat} : valBy g rows j s = valBy h rows j s := by
  rw [valBy, valBy, sm.tb, seen_map, seen_map, sm.ey]
theorem sm_step {rows : List (List Nat)} {m : Mv} : stepV g rows m = stepV h rows m := by rw [stepV, stepV, sm_val sm]
theorem sm_run : ∀ {ms : List Mv} {rows : List (List Nat)}, RunOk h rows ms → RunOk g rows ms
  | [], _, _ => trivial
  | m :: ms, rows, ro => ⟨⟨by rw [sm.ln]; exact ro.1.pl, by rw [sm.ey]; exact ro.1.ln, fun p hp => by rw [sm.ey] at hp; exact ro.1.bd p hp⟩, by rw [sm_step sm]; exact sm_run ro.2⟩
theorem sm_sts : ∀ {ms : List Mv} {rows : List (List Nat)} {st : List Nat}, stsV g rows st ms = stsV h rows st ms
  | [], _, _ => rfl
  | m :: ms, rows, st => by rw [stsV, stsV, sm_step sm, sm_val sm, sm_sts]
theorem sm_flip : ∀ {ms : List Mv} {many : List Nat}, flipV g many ms = flipV h many ms
  | [], _ => rfl
  | m :: ms, many => by rw [flipV, flipV, sm_flip, flip1, flip1, sm.ey]
end
end Lt.Mt

namespace Lt.Mt
open PySem

/-! ### cut runs -/
/-- old versions and those of the cut run -/
structure CuR (h : Hs) (nums : List (List Nat)) (many : List Nat) (rows R : List (List Nat)) : Prop where
  rl : rows.length = h.length
  Rl : R.length = h.length
  nl : nums.length = h.length
  ml : many.length = h.length
  eq : ∀ j, j < h.length → (nums.getD j []).length = (rows.getD j []).length
  at' : ∀ j, j < h.length → ∀ i, i < (rows.getD j []).length → (nums.getD j []).getD i 0 < (R.getD j []).length ∧ (R.getD j []).getD ((nums.getD j []).getD i 0) 0 = (rows.getD j []).getD i 0
  ne : ∀ j, j < h.length → rows.getD j [] ≠ []
  la : ∀ j, j < h.length → (R.getD j []).getLastD 0 = (rows.getD j []).getLastD 0
  mn : ∀ j, j < h.length → many.getD j 0 = (R.getD j []).length
theorem lastD_at {l : List Nat} (h : l ≠ []) : l.getLastD 0 = l.getD (l.length - 1) 0 := by
  obtain ⟨ys, a, rfl⟩ : ∃ ys a, l = ys ++ [a] := ⟨l.dropLast, l.getLast h, (List.dropLast_concat_getLast h).symm⟩
  simp
theorem snoc_at {l : List Nat} {x i : Nat} : (l ++ [x]).getD i 0 = if i < l.length then l.getD i 0 else if i = l.length then x else 0 := by
  simp only [List.getD_eq_getElem?_getD]
  by_cases h : i < l.length
  · rw [List.getElem?_append_left h, if_pos h]
  · rw [List.getElem?_append_right (by omega), if_neg h]
    by_cases h2 : i = l.length
    · subst h2; simp
    · rw [if_neg h2, List.getElem?_eq_none (by simp; omega)]; rfl
theorem cu_seen {h : Hs} {nums rows R : List (List Nat)} {many : List Nat} {m : Mv} (ok : HsOk h) (c : CuR h nums many rows R) (mo : MvOk h rows m) : MvOk h R (m.1, seeN h nums m) ∧ valBy h R m.1 (seeN h nums m) = valBy h rows m.1 m.2 := by
  have ln : (seeN h nums m).length = (eyesOf h m.1).length := by simp [seeN, seenV, mo.ln]
  have key : ∀ p ∈ (eyesOf h m.1).zip (seeN h nums m), ∃ q ∈ (eyesOf h m.1).zip m.2, p = (q.1, (nums.getD q.1 []).getD q.2 0) := by
    intro p hp
    obtain ⟨i, hi, e⟩ := List.mem_iff_getElem.mp hp
    rw [List.getElem_zip] at e
    have hi2 : i < (eyesOf h m.1).length := by rw [List.length_zip] at hi; omega
    have hz : i < ((eyesOf h m.1).zip m.2).length := by rw [List.length_zip, mo.ln]; omega
    refine ⟨((eyesOf h m.1).zip m.2)[i], List.getElem_mem _, ?_⟩
    rw [← e]
    simp only [seeN, seenV, List.getElem_map, List.getElem_zip]
  refine ⟨⟨mo.pl, ln, fun p hp => ?_⟩, ?_⟩
  · obtain ⟨q, hq, rfl⟩ := key p hp
    exact (c.at' q.1 (eyes_lt ok (List.of_mem_zip (show (q.1, q.2) ∈ _ from hq)).1) q.2 (mo.bd q hq)).1
  · have e : seenV h R m.1 (seeN h nums m) = seenV h rows m.1 m.2 := by
      rw [seen_map, seen_map]
      have ez : (eyesOf h m.1).zip (seeN h nums m) = ((eyesOf h m.1).zip m.2).map fun q => (q.1, (nums.getD q.1 []).getD q.2 0) := by
        rw [seeN, seen_map]
        have := mo.ln
        generalize eyesOf h m.1 = es at *
        generalize m.2 = ss at *
        clear key ln
        induction es generalizing ss with
        | nil => rfl
        | cons a es ih =>
          cases ss with
          | nil => simp at this
          | cons b ss =>
            simp only [List.zip_cons_cons, List.map_cons]
            rw [ih ss (by simpa using this)]
      rw [ez, List.map_map]
      refine List.map_congr_left fun q hq => ?_
      exact (c.at' q.1 (eyes_lt ok (List.of_mem_zip (show (q.1, q.2) ∈ _ from hq)).1) q.2 (mo.bd q hq)).2
    rw [valBy, valBy, e]
theorem cu_stay {h : Hs} {nums rows R : List (List Nat)} {many : List Nat} {m : Mv} (c : CuR h nums many rows R) (pl : m.1 < h.length) (hi : idle h rows m) : CuR h (stay nums m.1) many (stepV h rows m) R := by
  have hr : m.1 < rows.length := by rw [c.rl]; exact pl
  have hn : m.1 < nums.length := by rw [c.nl]; exact pl
  have gr : ∀ j, (stepV h rows m).getD j [] = if m.1 = j then rows.getD m.1 [] ++ [valBy h rows m.1 m.2] else rows.getD j [] := fun j => by rw [stepV, getD_set hr]
  have gn : ∀ j, (stay nums m.1).getD j [] = if m.1 = j then nums.getD m.1 [] ++ [(nums.getD m.1 []).getLastD 0] else nums.getD j [] := fun j => by rw [stay, getD_set hn]
  have nn : nums.getD m.1 [] ≠ [] := fun z => c.ne _ pl (List.length_eq_zero_iff.mp (by rw [← c.eq _ pl, z]; rfl))
  refine ⟨by simp [stepV, c.rl], c.Rl, by simp [stay, c.nl], c.ml, fun j hj => ?_, fun j hj i hi2 => ?_, fun j hj => ?_, fun j hj => ?_, c.mn⟩
  · rw [gr, gn]
    split
    · simp only [List.length_append, c.eq _ pl, List.length_cons, List.length_nil]
    · exact c.eq j hj
  · rw [gr] at hi2
    rw [gr, gn]
    split
    · rename_i e
      subst e
      rw [if_pos rfl] at hi2
      simp only [List.length_append, List.length_cons, List.length_nil] at hi2
      rw [snoc_at, snoc_at, c.eq _ pl]
      by_cases h1 : i < (rows.getD m.1 []).length
      · rw [if_pos h1, if_pos h1]; exact c.at' _ pl i h1
      · have h2 : i = (rows.getD m.1 []).length := by omega
        rw [if_neg h1, if_pos h2, if_neg h1, if_pos h2, lastD_at nn, c.eq _ pl]
        have hp := List.length_pos_iff.mpr (c.ne _ pl)
        have := c.at' _ pl ((rows.getD m.1 []).length - 1) (by omega)
        refine ⟨this.1, ?_⟩
        rw [this.2, ← lastD_at (c.ne _ pl)]
        exact hi.symm
    · rename_i e
      rw [if_neg e] at hi2
      exact c.at' j hj i hi2
  · rw [gr]
    split
    · simp
    · exact c.ne j hj
  · rw [gr]
    split
    · rename_i e
      subst e
      rw [c.la _ pl, ← hi]; simp
    · exact c.la j hj
theorem cu_go {h : Hs} {nums rows R : List (List Nat)} {many : List Nat} {m : Mv} (c : CuR h nums many rows R) (pl : m.1 < h.length) (ev : valBy h R m.1 (seeN h nums m) = valBy h rows m.1 m.2) : CuR h (goOn nums many m.1) (bump many m.1) (stepV h rows m) (stepV h R (m.1, seeN h nums m)) := by
  have hr : m.1 < rows.length := by rw [c.rl]; exact pl
  have hR : m.1 < R.length := by rw [c.Rl]; exact pl
  have hn : m.1 < nums.length := by rw [c.nl]; exact pl
  have hm : m.1 < many.length := by rw [c.ml]; exact pl
  have gr : ∀ j, (stepV h rows m).getD j [] = if m.1 = j then rows.getD m.1 [] ++ [valBy h rows m.1 m.2] else rows.getD j [] := fun j => by rw [stepV, getD_set hr]
  have gR : ∀ j, (stepV h R (m.1, seeN h nums m)).getD j [] = if m.1 = j then R.getD m.1 [] ++ [valBy h rows m.1 m.2] else R.getD j [] := fun j => by rw [stepV, getD_set hR]; simp only [ev]
  have gn : ∀ j, (goOn nums many m.1).getD j [] = if m.1 = j then nums.getD m.1 [] ++ [many.getD m.1 0] else nums.getD j [] := fun j => by rw [goOn, getD_set hn]
  refine ⟨by simp [stepV, c.rl], by simp [stepV, c.Rl], by simp [goOn, c.nl], by rw [bump_len]; exact c.ml, fun j hj => ?_, fun j hj i hi2 => ?_, fun j hj => ?_, fun j hj => ?_, fun j hj => ?_⟩
  · rw [gr, gn]
    split
    · simp only [List.length_append, c.eq _ pl, List.length_cons, List.length_nil]
    · exact c.eq j hj
  · rw [gr] at hi2
    rw [gr, gn, gR]
    split
    · rename_i e
      subst e
      rw [if_pos rfl] at hi2
      simp only [List.length_append, List.length_cons, List.length_nil] at hi2
      rw [snoc_at (l := nums.getD m.1 []) (i := i), snoc_at (l := rows.getD m.1 []) (i := i), c.eq _ pl]
      by_cases h1 : i < (rows.getD m.1 []).length
      · have := c.at' _ pl i h1
        rw [if_pos h1, if_pos h1, snoc_at, if_pos this.1]
        exact ⟨by simp only [List.length_append, List.length_cons, List.length_nil]; omega, this.2⟩
      · have h2 : i = (rows.getD m.1 []).length := by omega
        rw [if_neg h1, if_pos h2, if_neg h1, if_pos h2, c.mn _ pl, snoc_at, if_neg (by omega), if_pos rfl]
        exact ⟨by simp, rfl⟩
    · rename_i e
      rw [if_neg e] at hi2
      exact c.at' j hj i hi2
  · rw [gr]
    split
    · simp
    · exact c.ne j hj
  · rw [gr, gR]
    split
    · simp
    · exact c.la j hj
  · rw [gR, bump, getD_set hm]
    split
    · rw [c.mn _ pl]; simp
    · exact c.mn j hj
/-- no move writes what is there -/
def NoIdle (h : Hs) : List (List Nat) → List Mv → Prop
  | _, [] => True
  | R, m :: ms => ¬ idle h R m ∧ NoIdle h (stepV h R m) ms
/-- the states that come, each once -/
def chg : List Nat → List (List Nat) → List (List Nat)
  | _, [] => []
  | p, x :: r => if x ≠ p then x :: chg x r else chg x r
/-- the state is what the last versions have -/
def StLast (h : Hs) (rows : List (List Nat)) (st : List Nat) : Prop := st.length = h.length ∧ ∀ j, j < h.length → st.getD j 0 = (rows.getD j []).getLastD 0
theorem stl_step {h : Hs} {rows : List (List Nat)} {st : List Nat} {m : Mv} (rl : rows.length = h.length) (pl : m.1 < h.length) (sl : StLast h rows st) : StLast h (stepV h rows m) (st.set m.1 (valBy h rows m.1 m.2)) := by
  refine ⟨by rw [List.length_set]; exact sl.1, fun j hj => ?_⟩
  rw [getD_set (by rw [sl.1]; exact pl), stepV, getD_set (by rw [rl]; exact pl)]
  split
  · simp
  · exact sl.2 j hj
theorem set_id {st : List Nat} {j v : Nat} (hj : j < st.length) : st.set j v = st ↔ v = st.getD j 0 := by
  constructor
  · intro e
    have : (st.set j v).getD j 0 = v := by rw [getD_set hj, if_pos rfl]
    rw [e] at this
    exact this.symm
  · intro e
    subst e
    apply List.ext_getElem?
    intro i
    rw [List.getElem?_set]
    split
    · rename_i h1
      subst h1
      exact (getD_at hj).symm
    · rfl
theorem cut_all {h : Hs} (ok : HsOk h) : ∀ {ms : List Mv} {nums rows R : List (List Nat)} {many : List Nat} {st : List Nat}, CuR h nums many rows R → RunOk h rows ms → StLast h rows st →
    RunOk h R (cutV h nums many rows ms) ∧ NoIdle h R (cutV h nums many rows ms) ∧ (stsV h R st (cutV h nums many rows ms)) = st :: chg st ((stsV h rows st ms).drop 1)
  | [], nums, rows, R, many, st, _, _, _ => ⟨trivial, trivial, rfl⟩
  | m :: ms, nums, rows, R, many, st, c, ro, sl => by
    obtain ⟨mo, ro⟩ := ro
    have pl := mo.pl
    have sl2 := stl_step (m := m) c.rl pl sl
    have hst : m.1 < st.length := by rw [sl.1]; exact pl
    obtain ⟨X, eX⟩ := stsV_hd (h := h) (ms := ms) (rows := stepV h rows m) (st := st.set m.1 (valBy h rows m.1 m.2))
    have es : (stsV h rows st (m :: ms)).drop 1 = st.set m.1 (valBy h rows m.1 m.2) :: X := by rw [stsV, eX]; rfl
    rw [es, cutV]
    by_cases hi : idle h rows m
    · rw [if_pos hi]
      have same : st.set m.1 (valBy h rows m.1 m.2) = st := (set_id hst).mpr (by rw [sl.2 _ pl]; exact hi)
      obtain ⟨h1, h2, h3⟩ := cut_all ok (cu_stay c pl hi) ro sl2
      rw [same] at h3 eX
      refine ⟨h1, h2, ?_⟩
      rw [h3, same, eX]
      simp [chg]
    · rw [if_neg hi]
      obtain ⟨mo2, ev⟩ := cu_seen ok c mo
      have diff : st.set m.1 (valBy h rows m.1 m.2) ≠ st := fun z => hi (by rw [idle, ← sl.2 _ pl]; exact (set_id hst).mp z)
      obtain ⟨h1, h2, h3⟩ := cut_all ok (cu_go c pl ev) ro sl2
      refine ⟨⟨mo2, h1⟩, ⟨?_, h2⟩, ?_⟩
      · intro z
        apply hi
        rw [idle] at z ⊢
        rw [← ev, ← c.la _ pl]; exact z
      · rw [stsV]
        show st :: stsV h (stepV h R (m.1, seeN h nums m)) (st.set m.1 (valBy h R m.1 (seeN h nums m))) _ = _
        rw [ev, h3, eX, chg, if_pos diff]
        rfl
theorem num0_at {rows : List (List Nat)} {j : Nat} : (num0 rows).getD j [] = List.range (rows.getD j []).length := by
  simp only [num0, List.getD_eq_getElem?_getD, List.getElem?_map]
  cases rows[j]? <;> simp
theorem range_at {n i : Nat} (h : i < n) : (List.range n).getD i 0 = i := by
  rw [List.getD_eq_getElem?_getD, List.getElem?_range h]; rfl
theorem cu_first {h : Hs} {s : St} : CuR h (num0 (firstV h s)) (lens (firstV h s)) (firstV h s) (firstV h s) := by
  refine ⟨firstV_len, firstV_len, by simp [num0, firstV_len], lens_first, fun j _ => num0_len, fun j hj i hi => ?_, fun j hj => firstV_ne hj, fun _ _ => rfl, fun j _ => lens_at⟩
  rw [num0_at, range_at hi]
  exact ⟨hi, rfl⟩
theorem stl_first {h : Hs} {s : St} (so : StOk h s) : StLast h (firstV h s) s.st :=
  ⟨so.sl, fun j hj => by rw [firstV_at hj]; simp⟩
theorem num0_go {h : Hs} {R : List (List Nat)} {m : Mv} (hj : m.1 < R.length) : goOn (num0 R) (lens R) m.1 = num0 (stepV h R m) := by
  rw [goOn, num0_at, lens_at, stepV]
  simp only [num0, List.map_set]
  congr 1
  rw [List.length_append]
  exact List.range_succ.symm
theorem cut_id {h : Hs} (ok : HsOk h) : ∀ {ms : List Mv} {R : List (List Nat)}, R.length = h.length → RunOk h R ms → NoIdle h R ms → cutV h (num0 R) (lens R) R ms = ms
  | [], _, _, _, _ => rfl
  | m :: ms, R, rl, ro, ni => by
    rw [cutV, if_neg ni.1]
    have e1 : seeN h (num0 R) m = m.2 := by
      rw [seeN, seen_map]
      have e2 : ((eyesOf h m.1).zip m.2).map (fun p => ((num0 R).getD p.1 []).getD p.2 0) = ((eyesOf h m.1).zip m.2).map (·.2) := List.map_congr_left fun p hp => by
        rw [num0_at, range_at (ro.1.bd p hp)]
      rw [e2]
      exact zip_snd ro.1.ln
    rw [e1, num0_go (h := h) (by rw [rl]; exact ro.1.pl), ← lens_step, cut_id ok (by simp [stepV, rl]) ro.2 ni.2]
where
  zip_snd : ∀ {e s : List Nat}, s.length = e.length → (e.zip s).map (·.2) = s
  | [], [], _ => rfl
  | a :: e, b :: s, h => by simp [zip_snd (e := e) (s := s) (by simpa using h)]
  | [], _ :: _, h => by simp at h
  | _ :: _, [], h => by simp at h
theorem bare_all {h : Hs} {s : St} {ms : List Mv} (ok : HsOk h) (so : StOk h s) (ro : RunOk h (firstV h s) ms) : RunOk h (firstV h s) (bareV h s ms) ∧ bareV h s (bareV h s ms) = bareV h s ms ∧ stsV h (firstV h s) s.st (bareV h s ms) = s.st :: chg s.st ((stsV h (firstV h s) s.st ms).drop 1) := by
  obtain ⟨h1, h2, h3⟩ := cut_all ok cu_first ro (stl_first so)
  exact ⟨h1, cut_id ok firstV_len h1 h2, h3⟩
theorem cut_len {h : Hs} : ∀ {ms : List Mv} {nums rows : List (List Nat)} {many : List Nat}, (cutV h nums many rows ms).length ≤ ms.length
  | [], _, _, _ => Nat.le_refl _
  | m :: ms, nums, rows, many => by
    rw [cutV]
    split
    · have := cut_len (h := h) (ms := ms) (nums := stay nums m.1) (rows := stepV h rows m) (many := many)
      simp only [List.length_cons]; omega
    · have := cut_len (h := h) (ms := ms) (nums := goOn nums many m.1) (rows := stepV h rows m) (many := bump many m.1)
      simp only [List.length_cons]; omega
/-- what the law makes of the states -/
theorem chg_zip : ∀ {r : List (List Nat)} {p : List Nat}, ((r.zip (p :: r)).filter fun q => decide (q.1 ≠ q.2)).map (·.1) = chg p r
  | [], _ => rfl
  | x :: r, p => by
    rw [List.zip_cons_cons, chg]
    by_cases h : x = p
    · rw [List.filter_cons_of_neg (by simp [h]), chg_zip, if_neg (by simp [h])]
    · rw [List.filter_cons_of_pos (by simp [h]), List.map_cons, chg_zip, if_pos h]
end Lt.Mt

namespace Lt.Mt
open PySem

/-! ### _law_turned_right -/
def tuBody : Stm := .seq (.app 3 (.tup (.cn (.var 11) (.cn (.bi .tuple (.cn (.lc [17, 15] (.many [17, 15]) (.zp (.idx (.idx (.var 0) (.var 11)) (.int 1)) (.var 12)) (.cmp .in_ (.var 17) (.idx (.idx (.var 9) (.var 11)) (.int 1))) (.var 15) false) .nl)) .nl)))) .nil
theorem tu_loop {F : FT} {h : Hs} {ts : Tin} {x1 x2 x4 x5 x6 x7 x8 x10 x13 x14 x15 x16 x17 : Option R} (ok : HsOk h) : ∀ {ms : List Mv} {fd : List Mv} {a b : Option R}, (∀ m ∈ ms, m.1 < h.length) → fd.length + ms.length ≤ 90000 →
    ∃ a' b', forL (turn F (.many [11, 12]) tuBody) (ms.map encM) [some (.p (encH h)), x1, x2, some (.o1 (fd.map encM)), x4, x5, x6, x7, x8, some (.p (encH (leanH h))), x10, a, b, x13, x14, x15, x16, x17] ts
      = some (.nx [some (.p (encH h)), x1, x2, some (.o1 ((fd ++ ms.map (slimM h)).map encM)), x4, x5, x6, x7, x8, some (.p (encH (leanH h))), x10, a', b', x13, x14, x15, x16, x17], ts)
  | [], fd, a, b, _, _ => ⟨a, b, by rw [show fd ++ ([] : List Mv).map (slimM h) = fd by simp]; rfl⟩
  | m :: ms, fd, a, b, hm, hl => by
    simp only [List.length_cons] at hl
    have pl := hm m (by simp)
    obtain ⟨f, e⟩ := at_lt pl
    have ee := eyes_at e
    obtain ⟨a', b', ih⟩ := tu_loop (F := F) (ts := ts) (x1 := x1) (x2 := x2) (x4 := x4) (x5 := x5) (x6 := x6) (x7 := x7) (x8 := x8) (x10 := x10) (x13 := x13) (x14 := x14) (x15 := x15) (x16 := x16) (x17 := x17) ok (ms := ms) (fd := fd ++ [slimM h m]) (a := some (.p (.int (m.1 : Nat)))) (b := some (.p (tns m.2))) (fun q hq => hm q (by simp [hq])) (by simp; omega)
    refine ⟨a', b', ?_⟩
    have et : ns (slimM h m).2 = ((f.eyes.zip m.2).filter fun p => decide (p.1 ∈ mats h m.1)).map fun p => D.int (p.2 : Nat) := by simp [slimM, slimQ, ns, ee]
    have st : turn F (.many [11, 12]) tuBody [some (.p (encH h)), x1, x2, some (.o1 (fd.map encM)), x4, x5, x6, x7, x8, some (.p (encH (leanH h))), x10, a, b, x13, x14, x15, x16, x17] (encM m) ts
        = some (.nx [some (.p (encH h)), x1, x2, some (.o1 ((fd ++ [slimM h m]).map encM)), x4, x5, x6, x7, x8, some (.p (encH (leanH h))), x10, some (.p (.int (m.1 : Nat))), some (.p (tns m.2)), x13, x14, x15, x16, x17], ts) := by
      have e2 : (fd ++ [slimM h m]).map encM = fd.map encM ++ [.tup [.int (m.1 : Nat), tns (slimM h m).2]] := by rw [List.map_append]; rfl
      rw [e2]
      refine bturn rfl (bx_seq (bx_app (x := .p (.tup [.int (m.1 : Nat), tns (slimM h m).2])) (ts1 := ts) (bs_tup (bs_cn (bs_var rfl) (bs_cn (bs_bi (r := .p (tns (slimM h m).2)) (ts1 := ts) (ds := [.lst (ns (slimM h m).2)]) (bs_cn (x := .o1 (ns (slimM h m).2)) (ts1 := ts) ?_ bs_nl) rfl) bs_nl)) (show 2 ≤ 1000000 by omega)) rfl (by rw [List.length_map]; show _ < 1000000; omega)) bx_nil)
      rw [et]
      refine bs_lcf (l := f.eyes.zip m.2) (enc := fun p => .tup [.int (p.1 : Nat), .int (p.2 : Nat)]) (fun p => decide (p.1 ∈ mats h m.1)) (fun p => D.int (p.2 : Nat)) ?_ fun p hp => ⟨_, rfl, bs_cmp (bs_var rfl) (bs_idx (bs_idx (bs_var rfl) (bs_var rfl) (idx_h (lean_at pl))) bs_int fe) ?_, fun _ => ⟨_, bs_var rfl, rfl⟩⟩
      · rw [← zip_nn]
        exact bs_zp (bs_idx (bs_idx (bs_var rfl) (bs_var rfl) (idx_h e)) bs_int fe) (bs_var rfl) rfl rfl
      · show inD (.int (p.1 : Nat)) (tns (leanF h m.1).eyes) = _
        rw [lean_f e]
        exact in_tns
    show forL _ (encM m :: ms.map encM) _ _ = _
    simp only [forL, st]
    rw [show fd ++ (m :: ms).map (slimM h) = fd ++ [slimM h m] ++ ms.map (slimM h) by simp]
    exact ih
theorem slc_lt {xs : List D} {n : Nat} : slcD (.lst xs) none (some (n : Int)) = some (.o1 (xs.take n)) := by
  show some (R.o1 (cutL xs none (some (n : Int)))) = _
  rw [cut_t]
theorem slc_ld {xs : List D} {n : Nat} : slcD (.lst xs) (some (n : Int)) none = some (.o1 (xs.drop n)) := by
  show some (R.o1 (cutL xs (some (n : Int)) none)) = _
  rw [cut_d]
theorem bpd_s {k : Nat} {s : St} : bpd (k + 3) (encS s) = true := by
  simp only [encS]; rw [bpd]
  simp only [List.all_cons, List.all_nil, bpd_tns, Bool.and_true, Bool.true_and]
  exact bpd_t (enc := tns) fun _ _ => bpd_tns
theorem bpd_r {k : Nat} {s : St} {ms : List Mv} : bpd (k + 4) (encR s ms) = true := by
  simp only [encR]; rw [bpd]
  simp only [List.all_cons, List.all_nil, bpd_s, bpd_ms, Bool.and_true]
theorem f_turned_right {l : Nat} {h : Hs} {s : St} {ms : List Mv} {ts : Tin} (ok : HsOk h) (h0 : h ≠ []) (okR : HsOk (renH h)) (so : StOk h s) (ro : RunOk h (firstV h s) ms) (lo : ms.length ≤ 40000) : FL (l + 10) 75 [encH h, encS s, encMs ms] ts = some (.p (.bl true), ts) := by
  have l8 := ok.l8
  have okL := lean_ok ok
  have soL : StOk (leanH h) s := st_same lean_len (fun _ => lean_szs) so
  have fL : firstV (leanH h) s = firstV h s := first_same lean_len
  obtain ⟨roL, wL⟩ := lean_run ok (firstV_ok so) ro
  rw [← fL] at roL
  have sm := ren_same ok
  have soR : StOk (renH h) s := st_same sm.ln sm.sz so
  have fR : firstV (renH h) s = firstV h s := first_same sm.ln
  have roR := sm_run sm ro
  rw [← fR] at roR
  obtain ⟨rb, cb, sb⟩ := bare_all ok so ro
  have bl : (bareV h s ms).length ≤ ms.length := cut_len
  obtain ⟨a1, b1, eL⟩ := tu_loop (F := FL (l + 9)) (ts := ts) (x1 := some (.p (encS s))) (x2 := some (.p (encMs ms))) (x4 := none) (x5 := none) (x6 := none) (x7 := none) (x8 := none) (x10 := some (.p (encR s ms))) (x13 := none) (x14 := none) (x15 := none) (x16 := none) (x17 := none) ok (ms := ms) (fd := []) (a := none) (b := none) (run_pl ro) (by simp; omega)
  rw [List.nil_append] at eL
  have eR : FL (l + 9) 26 [encH h, .int 0, .int 0, .str "zzz"] ts = some (.p (encH (renH h)), ts) := by
    obtain ⟨f, r, rfl⟩ := List.exists_cons_of_ne_nil h0
    exact f_renamed (l := l + 3) ok okR
  have eW : FL (l + 9) 31 [encH (leanH h), encR s (ms.map (slimM h))] ts = some (.p (tns (wrV h (firstV h s) ms)), ts) := by
    have := f_writes (l := l + 5) (ts := ts) okL soL roL (by rw [List.length_map]; omega)
    rwa [fL, wL] at this
  have eT : FL (l + 9) 32 [encH (renH h), encR s ms] ts = some (.o1 ((stsV h (firstV h s) s.st ms).map tns), ts) := by
    have := f_states (l := l + 4) (ts := ts) okR soR roR (by omega)
    rwa [fR, sm_sts sm] at this
  have eG : FL (l + 9) 36 [encH (renH h), encR s ms] ts = some (.p (encMs (flipV h (lens (firstV h s)) ms)), ts) := by
    have := f_strides (l := l + 5) (ts := ts) okR soR roR (by omega)
    rwa [fR, sm_flip sm] at this
  have eB : FL (l + 9) 32 [encH h, encR s (bareV h s ms)] ts = some (.o1 ((s.st :: chg s.st ((stsV h (firstV h s) s.st ms).drop 1)).map tns), ts) := by
    have := f_states (l := l + 4) (ts := ts) ok so rb (by omega)
    rwa [sb] at this
  have eC : FL (l + 9) 49 [encH h, encR s (bareV h s ms)] ts = some (.p (encR s (bareV h s ms)), ts) := by
    have := f_cutrun (l := l + 2) (ts := ts) ok so rb (by omega)
    rwa [cb] at this
  have bp : bpd 5 (.lst [.bl true, tns (wrV h (firstV h s) ms), .lst ((stsV h (firstV h s) s.st ms).map tns), encMs (flipV h (lens (firstV h s)) ms), .lst ((s.st :: chg s.st ((stsV h (firstV h s) s.st ms).drop 1)).map tns), encR s (bareV h s ms), encS s]) = true := by
    rw [bpd]
    simp only [List.all_cons, List.all_nil, bpd_ms, bpd_tns, bpd_r, bpd_s, bpd_bl, Bool.and_true, Bool.true_and]
    rw [bpd_l (enc := tns) (xs := stsV h (firstV h s) s.st ms) fun _ _ => bpd_tns (k := 2), bpd_l (enc := tns) (xs := s.st :: chg s.st ((stsV h (firstV h s) s.st ms).drop 1)) fun _ _ => bpd_tns (k := 2)]
    rfl
  have eS := f_same (l := l + 3) (ts := ts) bp
  refine FL_rt rfl rfl
    (bx_seq (ρ1 := [some (.p (encH h)), some (.p (encS s)), some (.p (encMs ms)), none, none, none, none, none, none, some (.p (encH (leanH h))), some (.p (encR s ms)), none, none, none, none, none, none, none]) (bx_par (y := .p (encR s ms)) (bs_fn (bs_cn (bs_var rfl) bs_nl) (f_lean ok) cl_h) (bs_tup (bs_cn (bs_var rfl) (bs_cn (bs_var rfl) bs_nl)) (show 2 ≤ 1000000 by omega)) rfl rfl)
    (bx_seq (ρ1 := [some (.p (encH h)), some (.p (encS s)), some (.p (encMs ms)), some (.o1 []), none, none, none, none, none, some (.p (encH (leanH h))), some (.p (encR s ms)), none, none, none, none, none, none, none]) (bx_asg (bs_lst bs_nl (by decide)) rfl)
    (bx_seq (ρ1 := [some (.p (encH h)), some (.p (encS s)), some (.p (encMs ms)), some (.o1 ((ms.map (slimM h)).map encM)), none, none, none, none, none, some (.p (encH (leanH h))), some (.p (encR s ms)), a1, b1, none, none, none, none, none]) (bx_for (bs_sq (bs_var rfl) rfl) eL)
    (bx_seq (ρ1 := [some (.p (encH h)), some (.p (encS s)), some (.p (encMs ms)), some (.o1 ((ms.map (slimM h)).map encM)), none, none, none, none, none, some (.p (encH (leanH h))), some (.p (encR s ms)), a1, b1, some (.p (encR s (ms.map (slimM h)))), some (.p (encR s (bareV h s ms))), none, none, none]) (bx_par (x := .p (encR s (ms.map (slimM h)))) (y := .p (encR s (bareV h s ms))) (bs_brw (bs_tup (bs_cn (bs_var rfl) (bs_cn (bs_bi (r := .p (encMs (ms.map (slimM h)))) (bs_cn (bs_var rfl) bs_nl) rfl) bs_nl)) (show 2 ≤ 1000000 by omega)) (cl_r (s := s) (ms := (ms.map (slimM h))))) (bs_fn (bs_cn (bs_var rfl) (bs_cn (bs_var rfl) bs_nl)) (f_cutrun ok so ro (by omega)) cl_r) rfl rfl)
    (bx_seq (ρ1 := [some (.p (encH h)), some (.p (encS s)), some (.p (encMs ms)), some (.o1 ((ms.map (slimM h)).map encM)), some (.p (encH (renH h))), none, none, none, none, some (.p (encH (leanH h))), some (.p (encR s ms)), a1, b1, some (.p (encR s (ms.map (slimM h)))), some (.p (encR s (bareV h s ms))), none, none, none]) (bx_asg (bs_fn (bs_cn (bs_var rfl) (bs_cn bs_int (bs_cn bs_int (bs_cn bs_str bs_nl)))) eR cl_h) rfl)
    (bx_seq (ρ1 := [some (.p (encH h)), some (.p (encS s)), some (.p (encMs ms)), some (.o1 ((ms.map (slimM h)).map encM)), some (.p (encH (renH h))), some (.o1 [.bl true, tns (wrV h (firstV h s) ms), .lst ((stsV h (firstV h s) s.st ms).map tns)]), none, none, none, some (.p (encH (leanH h))), some (.p (encR s ms)), a1, b1, some (.p (encR s (ms.map (slimM h)))), some (.p (encR s (bareV h s ms))), none, none, none]) (bx_asg (r := .o1 [.bl true, tns (wrV h (firstV h s) ms), .lst ((stsV h (firstV h s) s.st ms).map tns)]) (ts1 := ts) (bs_lst (bs_cn (bs_fn (bs_cn (bs_var rfl) (bs_cn (bs_var rfl) bs_nl)) (f_isrun okL soL roL) rfl) (bs_cn (bs_fn (bs_cn (bs_var rfl) (bs_cn (bs_var rfl) bs_nl)) eW cl_tns) (bs_cn (bs_fn (bs_cn (bs_var rfl) (bs_cn (bs_var rfl) bs_nl)) eT (clean_map fun _ => cl_tns)) bs_nl))) (show 3 ≤ 1000000 by omega)) rfl)
    (bx_seq (ρ1 := [some (.p (encH h)), some (.p (encS s)), some (.p (encMs ms)), some (.o1 ((ms.map (slimM h)).map encM)), some (.p (encH (renH h))), some (.o1 [.bl true, tns (wrV h (firstV h s) ms), .lst ((stsV h (firstV h s) s.st ms).map tns), encMs (flipV h (lens (firstV h s)) ms)]), none, none, none, some (.p (encH (leanH h))), some (.p (encR s ms)), a1, b1, some (.p (encR s (ms.map (slimM h)))), some (.p (encR s (bareV h s ms))), none, none, none]) (bx_app (xs := [.bl true, tns (wrV h (firstV h s) ms), .lst ((stsV h (firstV h s) s.st ms).map tns)]) (x := .p (encMs (flipV h (lens (firstV h s)) ms))) (ts1 := ts) (bs_fn (bs_cn (bs_var rfl) (bs_cn (bs_var rfl) bs_nl)) eG cl_ms) rfl (show 3 < 1000000 by omega))
    (bx_seq (ρ1 := [some (.p (encH h)), some (.p (encS s)), some (.p (encMs ms)), some (.o1 ((ms.map (slimM h)).map encM)), some (.p (encH (renH h))), some (.o1 [.bl true, tns (wrV h (firstV h s) ms), .lst ((stsV h (firstV h s) s.st ms).map tns), encMs (flipV h (lens (firstV h s)) ms)]), some (.p (.lst [.bl true, tns (wrV h (firstV h s) ms), .lst ((stsV h (firstV h s) s.st ms).map tns), encMs (flipV h (lens (firstV h s)) ms)])), none, none, some (.p (encH (leanH h))), some (.p (encR s ms)), a1, b1, some (.p (encR s (ms.map (slimM h)))), some (.p (encR s (bareV h s ms))), none, none, none]) (bx_asg (r := .o1 [.bl true, tns (wrV h (firstV h s) ms), .lst ((stsV h (firstV h s) s.st ms).map tns), encMs (flipV h (lens (firstV h s)) ms)]) (ts1 := ts) (bs_lst (bs_cn bs_bl (bs_cn (bs_fn (bs_cn (bs_var rfl) (bs_cn (bs_var rfl) bs_nl)) (f_writes ok so ro (by omega)) cl_tns) (bs_cn (bs_fn (bs_cn (bs_var rfl) (bs_cn (bs_var rfl) bs_nl)) (f_states ok so ro (by omega)) (clean_map fun _ => cl_tns)) (bs_cn (bs_fn (bs_cn (bs_var rfl) (bs_cn (bs_var rfl) bs_nl)) (f_strides ok so ro (by omega)) cl_ms) bs_nl)))) (show 4 ≤ 1000000 by omega)) rfl)
    (bx_seq (ρ1 := [some (.p (encH h)), some (.p (encS s)), some (.p (encMs ms)), some (.o1 ((ms.map (slimM h)).map encM)), some (.p (encH (renH h))), some (.o1 [.bl true, tns (wrV h (firstV h s) ms), .lst ((stsV h (firstV h s) s.st ms).map tns), encMs (flipV h (lens (firstV h s)) ms)]), some (.p (.lst [.bl true, tns (wrV h (firstV h s) ms), .lst ((stsV h (firstV h s) s.st ms).map tns), encMs (flipV h (lens (firstV h s)) ms)])), some (.p (.lst ((stsV h (firstV h s) s.st ms).map tns))), none, some (.p (encH (leanH h))), some (.p (encR s ms)), a1, b1, some (.p (encR s (ms.map (slimM h)))), some (.p (encR s (bareV h s ms))), none, none, none]) (bx_asg (bs_fn (bs_cn (bs_var rfl) (bs_cn (bs_var rfl) bs_nl)) (f_states ok so ro (by omega)) (clean_map fun _ => cl_tns)) rfl)
    (bx_seq (ρ1 := [some (.p (encH h)), some (.p (encS s)), some (.p (encMs ms)), some (.o1 ((ms.map (slimM h)).map encM)), some (.p (encH (renH h))), some (.o1 [.bl true, tns (wrV h (firstV h s) ms), .lst ((stsV h (firstV h s) s.st ms).map tns), encMs (flipV h (lens (firstV h s)) ms)]), some (.p (.lst [.bl true, tns (wrV h (firstV h s) ms), .lst ((stsV h (firstV h s) s.st ms).map tns), encMs (flipV h (lens (firstV h s)) ms)])), some (.p (.lst ((stsV h (firstV h s) s.st ms).map tns))), some (.p (.lst ((s.st :: chg s.st ((stsV h (firstV h s) s.st ms).drop 1)).map tns))), some (.p (encH (leanH h))), some (.p (encR s ms)), a1, b1, some (.p (encR s (ms.map (slimM h)))), some (.p (encR s (bareV h s ms))), none, none, none]) (bx_asg (r := .o1 ((s.st :: chg s.st ((stsV h (firstV h s) s.st ms).drop 1)).map tns)) (ts1 := ts) ?chg rfl)
    (bx_seq (ρ1 := [some (.p (encH h)), some (.p (encS s)), some (.p (encMs ms)), some (.o1 ((ms.map (slimM h)).map encM)), some (.p (encH (renH h))), some (.p (.lst [.bl true, tns (wrV h (firstV h s) ms), .lst ((stsV h (firstV h s) s.st ms).map tns), encMs (flipV h (lens (firstV h s)) ms)])), some (.p (.lst [.bl true, tns (wrV h (firstV h s) ms), .lst ((stsV h (firstV h s) s.st ms).map tns), encMs (flipV h (lens (firstV h s)) ms)])), some (.p (.lst ((stsV h (firstV h s) s.st ms).map tns))), some (.p (.lst ((s.st :: chg s.st ((stsV h (firstV h s) s.st ms).drop 1)).map tns))), some (.p (encH (leanH h))), some (.p (encR s ms)), a1, b1, some (.p (encR s (ms.map (slimM h)))), some (.p (encR s (bareV h s ms))), none, none, none]) (bx_frz (r := .o1 [.bl true, tns (wrV h (firstV h s) ms), .lst ((stsV h (firstV h s) s.st ms).map tns), encMs (flipV h (lens (firstV h s)) ms)]) rfl)
    (bx_seq (ρ1 := [some (.p (encH h)), some (.p (encS s)), some (.p (encMs ms)), some (.o1 ((ms.map (slimM h)).map encM)), some (.p (encH (renH h))), some (.p (.lst [.bl true, tns (wrV h (firstV h s) ms), .lst ((stsV h (firstV h s) s.st ms).map tns), encMs (flipV h (lens (firstV h s)) ms), .lst ((s.st :: chg s.st ((stsV h (firstV h s) s.st ms).drop 1)).map tns), encR s (bareV h s ms), encS s])), some (.p (.lst [.bl true, tns (wrV h (firstV h s) ms), .lst ((stsV h (firstV h s) s.st ms).map tns), encMs (flipV h (lens (firstV h s)) ms)])), some (.p (.lst ((stsV h (firstV h s) s.st ms).map tns))), some (.p (.lst ((s.st :: chg s.st ((stsV h (firstV h s) s.st ms).drop 1)).map tns))), some (.p (encH (leanH h))), some (.p (encR s ms)), a1, b1, some (.p (encR s (ms.map (slimM h)))), some (.p (encR s (bareV h s ms))), none, none, none]) (bx_asg (bs_add (bs_var rfl) (bs_lst (bs_cn (x := .o1 ((s.st :: chg s.st ((stsV h (firstV h s) s.st ms).drop 1)).map tns)) (ts1 := ts) (bs_fn (bs_cn (bs_var rfl) (bs_cn (bs_var rfl) bs_nl)) eB (clean_map fun _ => cl_tns)) (bs_cn (x := .p (encR s (bareV h s ms))) (ts1 := ts) (bs_fn (bs_cn (bs_var rfl) (bs_cn (bs_var rfl) bs_nl)) eC cl_r) (bs_cn (bs_idx (d := encS s) (bs_fn (bs_cn (bs_var rfl) (bs_cn (bs_var rfl) bs_nl)) (f_cutrun okL soL roL (by rw [List.length_map]; omega)) cl_r) bs_int rfl) bs_nl))) (show 3 ≤ 1000000 by omega)) (add_ll (show 4 + 3 ≤ 1000000 by omega))) rfl)
    (bx_rt (bx_ret (r := .p (.bl true)) (bs_fn (bs_cn (bs_var rfl) (bs_cn (bs_add (r := .o1 [.bl true, tns (wrV h (firstV h s) ms), .lst ((stsV h (firstV h s) s.st ms).map tns), encMs (flipV h (lens (firstV h s)) ms), .lst ((s.st :: chg s.st ((stsV h (firstV h s) s.st ms).drop 1)).map tns), encR s (bareV h s ms), encS s]) (bs_var rfl) (bs_lst (bs_cn (bs_var rfl) (bs_cn (bs_var rfl) (bs_cn (bs_var rfl) bs_nl))) (show 3 ≤ 1000000 by omega)) (add_ll (show 4 + 3 ≤ 1000000 by omega))) bs_nl)) eS rfl) rfl))))))))))))))
  case chg =>
    obtain ⟨X, eX⟩ := stsV_hd (h := h) (ms := ms) (rows := firstV h s) (st := s.st)
    have xl : X.length ≤ 90000 := by
      have := stsV_len (h := h) (ms := ms) (rows := firstV h s) (st := s.st)
      rw [eX] at this
      simp at this; omega
    rw [eX]
    have ez : zipD (X.map tns) ((s.st :: X).map tns) = (X.zip (s.st :: X)).map fun p => .tup [tns p.1, tns p.2] := zip_map
    have e3 : (s.st :: chg s.st ((s.st :: X).drop 1)).map tns = [tns s.st] ++ ((X.zip (s.st :: X)).filter fun p => decide (p.1 ≠ p.2)).map fun p => tns p.1 := by
      have := congrArg (List.map tns) (chg_zip (r := X) (p := s.st))
      rw [List.map_map] at this
      show tns s.st :: (chg s.st X).map tns = _
      rw [← this]
      rfl
    rw [e3]
    refine bs_add (x := .o1 [tns s.st]) (ts1 := ts) (bs_slc (bs_var rfl) bs_nlO (bs_sm bs_int) (slc_lt (n := 1))) (bs_lcf (l := X.zip (s.st :: X)) (enc := fun p => .tup [tns p.1, tns p.2]) (fun p => decide (p.1 ≠ p.2)) (fun p => tns p.1) ?_ fun p hp => ⟨_, rfl, bs_cmp (x := .p (tns p.1)) (y := .p (tns p.2)) (bs_var rfl) (bs_var rfl) ?_, fun _ => ⟨_, bs_var rfl, rfl⟩⟩) (add_ll ?_)
    · rw [← ez]
      exact bs_zp (x := .o1 (X.map tns)) (bs_slc (bs_var rfl) (bs_sm bs_int) bs_nlO (slc_ld (n := 1))) (bs_var rfl) rfl rfl
    · show cmpD .ne (tns p.1) (tns p.2) = _
      rw [ne_tns]
    · have := List.length_filter_le (fun p : List Nat × List Nat => decide (p.1 ≠ p.2)) (X.zip (s.st :: X))
      rw [List.length_zip] at this
      simp only [List.length_map, List.length_cons, List.length_nil]
      omega
end Lt.Mt

set_option maxRecDepth 100000
namespace Lt.Mt
open PySem
def isTrue : Option (R × Tin) → Bool
  | some (.p (.bl true), _) => true
  | _ => false
theorem hand : isTrue (FL 23 76 [.tin] [0, 7, 0]) = true := by decide +kernel
end Lt.Mt

namespace Lt.Mt
open PySem

/-! ### _law_right -/
theorem two_of {α β : Type} {Q : α → β → Prop} {a b : α} : ∀ {m : List β}, Fa2 Q [a, b] m → ∃ x y, m = [x, y] ∧ Q a x ∧ Q b y
  | [x, y], h => ⟨x, y, rfl, h.1, h.2.1⟩
  | [], h => h.elim
  | [_], h => h.2.elim
  | _ :: _ :: _ :: _, h => h.2.2.elim
theorem f_right {l : Nat} {ts : Tin} (ot : OkT 0 ts) : ∃ ts', FL (l + 13) 77 [.tin] ts = some (.p (.bl true), ts') := by
  obtain ⟨hs, ts1, e1, fa1, ot1⟩ := bs_lcD (F := FL (l + 12)) (ρ := [some (.p .tin), none, none, none, none, none, none]) (ts := ts) (ts1 := ts) (it := .rng (.int 2)) (own := [4]) (tg := .one 4) (elt := .fn 59 (.cn (.var 0) (.cn (.add (.int 1) (.fn 51 (.cn (.var 0) (.cn (.int 2) .nl)))) (.cn (.int 3) .nl)))) (l := [(0 : Nat), 1]) (enc := fun (n : Nat) => .int (n : Int)) (enc2 := encH) (k := 0) (c := 5001) (K := 100000) (fun _ h => DrH h) (bs_rng bs_int rfl) ot (by simp) (by
    intro a ha k' ts ot hk
    obtain ⟨v, ts1, e, hv, ot1⟩ := f_take (l := l + 11) (n := 2) (by omega) (by omega) ot (by omega)
    obtain ⟨h, ts2, e2, dr, ot2⟩ := f_hall (l := l + 9) (n := 1 + v) (by omega) (by omega) ot1 (by omega)
    have ea : addD (.int 1) (.int (v : Nat)) = some (.p (.int ((1 + v : Nat) : Int))) := by
      show some (R.p (.int ((1 : Int) + (v : Nat)))) = _
      congr 3
    exact ⟨_, _, h, ts2, rfl, bs_fn (bs_cn (bs_var rfl) (bs_cn (bs_add bs_int (bs_fn (bs_cn (bs_var rfl) (bs_cn bs_int bs_nl)) e rfl) ea) (bs_cn bs_int bs_nl))) e2 cl_h, rfl, dr, ot2.mono (by omega)⟩)
  obtain ⟨h, g, rfl, dh, dg⟩ := two_of fa1
  obtain ⟨ss, ts2, e2, fa2, ot2⟩ := bs_lcD (F := FL (l + 12)) (ρ := [some (.p .tin), some (.p (.lst [encH h, encH g])), none, none, none, none, none]) (ts := ts1) (ts1 := ts1) (it := .sq (.var 1)) (own := [5]) (tg := .one 5) (elt := .fn 61 (.cn (.var 0) (.cn (.var 5) .nl))) (l := [h, g]) (enc := encH) (enc2 := encS) (k := 0 + 5001 * 2) (c := 200) (K := 100000) (fun h s => StOk h s) (bs_sq (bs_var rfl) rfl) ot1 (by simp) (by
    intro a ha k' ts ot hk
    have da : DrH a := by
      simp only [List.mem_cons, List.not_mem_nil, or_false] at ha
      rcases ha with rfl | rfl <;> assumption
    obtain ⟨s, ts2, e2, so, ot2⟩ := f_start (l := l + 9) da.ok ot (by omega)
    exact ⟨_, _, s, ts2, rfl, bs_fn (bs_cn (bs_var rfl) (bs_cn (bs_var rfl) bs_nl)) e2 cl_s, rfl, so, ot2⟩)
  obtain ⟨s, t, rfl, so, to⟩ := two_of fa2
  obtain ⟨ms, ts3, e3, fa3, ot3⟩ := bs_lcD (F := FL (l + 12)) (ρ := [some (.p .tin), some (.p (.lst [encH h, encH g])), some (.p (.lst [encS s, encS t])), none, none, none, none]) (ts := ts2) (ts1 := ts2) (it := .zp (.var 1) (.var 2)) (own := [5, 6]) (tg := .many [5, 6]) (elt := .fn 64 (.cn (.var 0) (.cn (.var 5) (.cn (.var 6) (.cn (.fn 51 (.cn (.var 0) (.cn (.int 6) .nl))) .nl))))) (l := [(h, s), (g, t)]) (enc := fun p => .tup [encH p.1, encS p.2]) (enc2 := encMs) (k := 0 + 5001 * 2 + 200 * 2) (c := 100) (K := 100000) (fun p m => RunOk p.1 (firstV p.1 p.2) m ∧ m.length ≤ 5) (bs_zp (xs := [encH h, encH g]) (ys := [encS s, encS t]) (bs_var rfl) (bs_var rfl) rfl rfl) ot2 (by simp) (by
    intro a ha k' ts ot hk
    have da : DrH a.1 ∧ StOk a.1 a.2 := by
      simp only [List.mem_cons, List.not_mem_nil, or_false] at ha
      rcases ha with rfl | rfl
      · exact ⟨dh, so⟩
      · exact ⟨dg, to⟩
    obtain ⟨v, ts1, e, hv, ot1⟩ := f_take (l := l + 11) (n := 6) (by omega) (by omega) ot (by omega)
    obtain ⟨m, ts2, e2, ro, ln, ot2⟩ := f_moves (l := l + 8) (n := v) da.1.ok da.2 da.1.ss da.1.l0 (by omega) ot1 (by omega)
    exact ⟨_, _, m, ts2, rfl, bs_fn (bs_cn (bs_var rfl) (bs_cn (bs_var rfl) (bs_cn (bs_var rfl) (bs_cn (bs_fn (bs_cn (bs_var rfl) (bs_cn bs_int bs_nl)) e rfl) bs_nl)))) e2 cl_ms, rfl, ⟨ro, by omega⟩, ot2.mono (by omega)⟩)
  obtain ⟨a, b, rfl, ra, rb⟩ := two_of fa3
  have l8 : h.length + g.length ≤ 8 := by have := dh.l2; have := dg.l2; omega
  have la := ra.2
  have lb := rb.2
  obtain ⟨ts4, e4, ot4⟩ := f_beside_right (l := l + 2) dh.ok dg.ok l8 so to ra.1 rb.1 (by omega) ot3 (by simp)
  obtain ⟨ts5, e5, ot5⟩ := f_laps_right (l := l) dh.ok dg.ok dh.l0 dg.l0 l8 so to ot4 (by simp)
  have e6 := f_turned_right (l := l + 2) (ts := ts5) dh.ok dh.l0 dh.rn so ra.1 (by omega)
  refine ⟨ts5, FL_rt rfl rfl
    (bx_seq (ρ1 := [some (.p .tin), some (.p (.lst [encH h, encH g])), none, none, none, none, none]) (bx_asg e1 rfl)
    (bx_seq (ρ1 := [some (.p .tin), some (.p (.lst [encH h, encH g])), some (.p (.lst [encS s, encS t])), none, none, none, none]) (bx_asg e2 rfl)
    (bx_seq (ρ1 := [some (.p .tin), some (.p (.lst [encH h, encH g])), some (.p (.lst [encS s, encS t])), some (.p (.lst [encMs a, encMs b])), none, none, none]) (bx_asg e3 rfl)
    (bx_seq (bx_ifF (bs_orF (bs_not (k := true) (bs_fn (bs_cn (bs_var rfl) (bs_cn (bs_var rfl) (bs_cn (bs_var rfl) (bs_cn (bs_var rfl) bs_nl)))) e4 rfl)) (bs_not (k := true) (bs_fn (bs_cn (bs_var rfl) (bs_cn (bs_var rfl) (bs_cn (bs_var rfl) bs_nl))) e5 rfl))) bx_nil)
    (bx_rt (bx_ret (bs_fn (bs_cn (bs_idx (d := encH h) (bs_var rfl) bs_int rfl) (bs_cn (bs_idx (d := encS s) (bs_var rfl) bs_int rfl) (bs_cn (bs_idx (d := encMs a) (bs_var rfl) bs_int rfl) bs_nl))) e6 rfl) rfl))))))⟩

/-! ### _law_box, _law_cells -/
theorem f_box {l : Nat} {c : Int} {ts : Tin} : ∃ a b : Int, FL (l + 1) 50 [.lst [.int c], .int 0] ts = some (.o1 [.int a, .int b, .int 0], ts) ∧ 0 ≤ a := by
  have ha : 0 ≤ (if c < 0 then -c else c) := by split <;> omega
  refine ⟨(if c < 0 then -c else c) * (if decide ((10 : Int) ^ 18 ≤ (if c < 0 then -c else c)) then 1 else 0), c % 2305843009213693951 + 39373 * 0 + 1938054, FL_rt rfl rfl (bx_seq (bx_asg (bs_ite (k := true) (r := .p (.int c)) (r' := .p (.int 0)) (bs_cmp (bs_var rfl) (bs_bi (r := .p (.int 1)) (bs_cn (bs_var rfl) bs_nl) rfl) rfl) (fun _ => bs_idx (bs_var rfl) (bs_var rfl) rfl) fun z => by cases z) rfl)
    (bx_rt (bx_ret (bs_lst (bs_cn (bs_mul (bs_bi (r := .p (.int (if c < 0 then -c else c))) (bs_cn (bs_var rfl) bs_nl) rfl) (bs_bi (r := .p (.int (if decide ((10 : Int) ^ 18 ≤ (if c < 0 then -c else c)) then 1 else 0))) (bs_cn (bs_cmp (k := decide ((10 : Int) ^ 18 ≤ (if c < 0 then -c else c))) (bs_bi (r := .p (.int (if c < 0 then -c else c))) (bs_cn (bs_var rfl) bs_nl) rfl) (bs_pow (r := .p (.int (10 ^ 18))) bs_int bs_int rfl) rfl) bs_nl) rfl) (mul_r ?_)) (bs_cn (bs_add (bs_add (bs_mod (bs_bi (r := .p (.int c)) (bs_cn (bs_var rfl) bs_nl) rfl) bs_int (mod_p (by omega))) (bs_mul bs_int (bs_var rfl) (mul_l ⟨by omega, by omega⟩)) rfl) bs_int rfl) (bs_cn bs_int bs_nl))) (show 3 ≤ 1000000 by omega)) rfl))), ?_⟩
  · split <;> omega
  · apply Int.mul_nonneg ha
    split <;> omega
def ceBody : Stm := .seq (.asg 5 false (.mod (.bi .int (.cn (.var 3) .nl)) (.var 1))) (.seq (.sto 2 (.var 5) (.brw (.add (.idx (.var 2) (.var 5)) (.mul (.var 4) (.add (.var 3) (.int 2)))))) .nil)
theorem ce_loop {F : FT} {ts : Tin} {x0 : Option R} : ∀ {ps : List (Int × Nat)} {c : Int} {a b d : Option R}, (∀ p ∈ ps, p.2 ≤ 1000) →
    ∃ a' b' d' c', forL (turn F (.many [3, 4]) ceBody) (ps.map fun p => .tup [.int (p.2 : Nat), .int p.1]) [x0, some (.p (.int 1)), some (.o1 [.int c]), a, b, d] ts = some (.nx [x0, some (.p (.int 1)), some (.o1 [.int c']), a', b', d'], ts)
  | [], c, a, b, d, _ => ⟨a, b, d, c, rfl⟩
  | p :: ps, c, a, b, d, hp => by
    have hp0 := hp p (by simp)
    obtain ⟨a', b', d', c', ih⟩ := ce_loop (F := F) (ts := ts) (x0 := x0) (ps := ps) (c := c + p.1 * (((p.2 : Nat) : Int) + 2)) (a := some (.p (.int (p.2 : Nat)))) (b := some (.p (.int p.1))) (d := some (.p (.int 0))) (fun q hq => hp q (by simp [hq]))
    refine ⟨a', b', d', c', ?_⟩
    have em : modD (.int (p.2 : Nat)) (.int 1) = some (.p (.int 0)) := by
      rw [mod_p (by omega), Int.emod_one]
    have st : turn F (.many [3, 4]) ceBody [x0, some (.p (.int 1)), some (.o1 [.int c]), a, b, d] (.tup [.int (p.2 : Nat), .int p.1]) ts = some (.nx [x0, some (.p (.int 1)), some (.o1 [.int (c + p.1 * (((p.2 : Nat) : Int) + 2))]), some (.p (.int (p.2 : Nat))), some (.p (.int p.1)), some (.p (.int 0))], ts) :=
      bturn rfl (bx_seq (bx_asg (bs_mod (bs_bi (r := .p (.int (p.2 : Nat))) (bs_cn (bs_var rfl) bs_nl) rfl) (bs_var rfl) em) rfl) (bx_seq (bx_sto (r := .o1 [.int c]) (bs_brw (r := .p (.int (c + p.1 * (((p.2 : Nat) : Int) + 2)))) (bs_add (bs_idx (d := .int c) (bs_var rfl) (bs_var rfl) rfl) (bs_mul (bs_var rfl) (bs_add (bs_var rfl) bs_int rfl) (mul_r ⟨by omega, by omega⟩)) rfl) rfl) (bs_var rfl) rfl (by simp) rfl) bx_nil))
    show forL _ (D.tup [.int (p.2 : Nat), .int p.1] :: ps.map _) _ _ = _
    simp only [forL, st]
    exact ih
theorem f_cells {l : Nat} {xs : List Int} {ts : Tin} (hl : xs.length ≤ 63) : ∃ c : Int, FL (l + 1) 52 [.scr xs, .int 1] ts = some (.o1 [.int c], ts) := by
  have h1 : ∃ c : Int, ev (FL l) (.orl (.bi .list (.cn (.slc (.var 0) .nl (.sm (.var 1))) .nl)) (.lst (.cn (.int 0) .nl))) [some (.p (.scr xs)), some (.p (.int 1)), none, none, none, none] ts = some (.o1 [.int c], ts) := by
    have e1 : slcD (.scr xs) none (some ((1 : Nat) : Int)) = some (.o1 ((xs.take 1).map .int)) := by
      show some (R.o1 ((cutL xs none (some ((1 : Nat) : Int))).map .int)) = _
      rw [cut_t]
    cases xs with
    | nil => exact ⟨0, bs_orl0 (bs_bi (r := .o1 []) (bs_cn (bs_slc (r := .o1 []) (bs_var rfl) bs_nlO (bs_sm (bs_var rfl)) e1) bs_nl) rfl) (bs_lst (bs_cn bs_int bs_nl) (show 1 ≤ 1000000 by omega))⟩
    | cons c r => exact ⟨c, bs_orl1 (bs_bi (r := .o1 [.int c]) (bs_cn (bs_slc (r := .o1 [.int c]) (bs_var rfl) bs_nlO (bs_sm (bs_var rfl)) e1) bs_nl) rfl)⟩
  obtain ⟨c, e1⟩ := h1
  have e2 : ∃ ys : List Int, slcD (.scr xs) (some 1) (some 63) = some (.o1 (ys.map .int)) ∧ ys.length ≤ 63 := by
    refine ⟨cutL xs (some 1) (some 63), rfl, ?_⟩
    simp only [cutL, List.length_take, List.length_drop]
    omega
  obtain ⟨ys, e2, hy⟩ := e2
  obtain ⟨a', b', d', c', e3⟩ := ce_loop (F := FL l) (ts := ts) (x0 := some (.p (.scr xs))) (ps := ys.zipIdx) (c := c) (a := none) (b := none) (d := none) (fun p hp => by
    have := List.mem_zipIdx_iff_getElem?.mp hp
    have := (List.getElem?_eq_some_iff.mp this).1
    omega)
  exact ⟨c', FL_rt rfl rfl (bx_seq (bx_asg e1 rfl) (bx_seq (bx_for (enm_l (enc := .int) (xs := ys) (bs_slc (bs_var rfl) (bs_sm (bs_var rfl)) (bs_sm bs_int) e2) rfl) e3) (bx_rt (bx_retv rfl rfl))))⟩

/-! ### the law -/
theorem law_all (xs : List Int) (hl : xs.length ≤ 63) : FL 24 78 [.scr xs] [] = some (.p (.bl true), []) := by
  obtain ⟨c, e1⟩ := f_cells (l := 22) (ts := []) hl
  have hh : ∃ ts', FL 23 76 [.tin] [0, 7, 0] = some (.p (.bl true), ts') := by
    have := hand
    unfold isTrue at this
    split at this
    · exact ⟨_, by assumption⟩
    · cases this
  obtain ⟨ts', hh⟩ := hh
  obtain ⟨a, b, e2, ha⟩ := f_box (l := 22) (c := c) (ts := [])
  obtain ⟨ts2, e3⟩ := f_right (l := 10) (ts := [a, b, 0]) ⟨a, b, 0, rfl, ha, by omega, by simp⟩
  exact FL_rt rfl rfl (bx_seq (bx_ifF (bs_not (k := true) (bs_fnt (bs_lst (bs_cn bs_int (bs_cn bs_int (bs_cn bs_int bs_nl))) (show 3 ≤ 1000000 by omega)) rfl hh rfl)) bx_nil)
    (bx_seq (ρ1 := [some (.p (.scr xs)), some (.p (.lst [.int c])), none]) (bx_asg (bs_fn (bs_cn (bs_var rfl) (bs_cn bs_int bs_nl)) e1 rfl) rfl)
    (bx_rt (bx_ret (bs_allT (l := [(0 : Nat)]) (enc := fun (n : Nat) => .int (n : Int)) (bs_rng (bs_bi (r := .p (.int 1)) (bs_cn (bs_var rfl) bs_nl) rfl) rfl) fun k hk => by
      simp only [List.mem_cons, List.not_mem_nil, or_false] at hk
      subst hk
      exact ⟨_, rfl, bs_fnt (bs_fn (bs_cn (bs_var rfl) (bs_cn (bs_var rfl) bs_nl)) e2 rfl) rfl e3 rfl⟩) rfl))))
end Lt.Mt

namespace Lt
open PySem PySem.Spec PyProof.Rows L2

/-! ### how deep values lie in the heap -/
section
variable (K : PySem.W.Frag) (M : Addr → Prop) (T : Option Addr) (H : Hp)
mutual
def Rp : D → V → Prop
  | .non, v => v = .non
  | .bl b, v => v = .bl b
  | .int i, v => v = .int i
  | .str x, v => v = .str x
  | .tup ds, v => ∃ a vs, v = .ref a ∧ H a = some (.tup vs) ∧ ¬ M a ∧ vs.length ≤ LIM ∧ Rps ds vs
  | .lst ds, v => ∃ a vs, v = .ref a ∧ H a = some (.lst vs) ∧ ¬ M a ∧ vs.length ≤ LIM ∧ Rps ds vs
  | .dct ks ds, v => ∃ a kvs, v = .ref a ∧ H a = some (.dK kvs) ∧ ¬ M a ∧ kvs.length ≤ LIM ∧ kvs.map (·.1) = ks.map Sum.inl ∧ Rps ds (kvs.map (·.2))
  | .tin, v => ∃ a, T = some a ∧ v = .ref a
  | .scr ns, v => ∃ a, v = .ref a ∧ ((Rd H a (.lst (ns.map .int)) ∧ ¬ M a) ∨ SqL K (fun _ => none) a (ns.map .int)) ∧ ns.length ≤ LIM
def Rps : List D → List V → Prop
  | [], vs => vs = []
  | d :: ds, vs => ∃ v r, vs = v :: r ∧ Rp d v ∧ Rps ds r
end
end
section
variable {K : PySem.W.Frag} {M M' : Addr → Prop} {T : Option Addr} {H H' : Hp}
mutual
theorem Rp.imp (h : ∀ a o, H a = some o → ¬ M a → H' a = some o ∧ ¬ M' a) : ∀ {d : D} {v : V}, Rp K M T H d v → Rp K M' T H' d v
  | .non, _, e => e
  | .bl _, _, e => e
  | .int _, _, e => e
  | .str _, _, e => e
  | .tup ds, _, ⟨a, vs, e, g, m, l, r⟩ => ⟨a, vs, e, (h a _ g m).1, (h a _ g m).2, l, Rps.imp h r⟩
  | .lst ds, _, ⟨a, vs, e, g, m, l, r⟩ => ⟨a, vs, e, (h a _ g m).1, (h a _ g m).2, l, Rps.imp h r⟩
  | .dct ks ds, _, ⟨a, vs, e, g, m, l, q, r⟩ => ⟨a, vs, e, (h a _ g m).1, (h a _ g m).2, l, q, Rps.imp h r⟩
  | .tin, _, e => e
  | .scr ns, _, ⟨a, e, g, nl⟩ => ⟨a, e, by
    rcases g with ⟨g, m⟩ | g
    · rcases g with g | ⟨o, g⟩
      · exact .inl ⟨.inl (h a _ g m).1, (h a _ g m).2⟩
      · exact .inl ⟨.inr ⟨o, (h a _ g m).1⟩, (h a _ g m).2⟩
    · exact .inr g, nl⟩
theorem Rps.imp (h : ∀ a o, H a = some o → ¬ M a → H' a = some o ∧ ¬ M' a) : ∀ {ds : List D} {vs : List V}, Rps K M T H ds vs → Rps K M' T H' ds vs
  | [], _, e => e
  | d :: ds, _, ⟨v, r, e, q, t⟩ => ⟨v, r, e, Rp.imp h q, Rps.imp h t⟩
end
mutual
theorem Rp.nl (h : ∀ a vs, H a = some (.tup vs) → ¬ M' a) {T' : Option Addr} : ∀ {d : D} {v : V}, d.nl = true → Rp K M T H d v → Rp K M' T' H d v
  | .non, _, _, e => e
  | .bl _, _, _, e => e
  | .int _, _, _, e => e
  | .str _, _, _, e => e
  | .tup ds, _, n, ⟨a, vs, e, g, m, l, r⟩ => ⟨a, vs, e, g, h a vs g, l, Rps.nl h (by simpa [D.nl] using n) r⟩
  | .lst _, _, n, _ => by simp [D.nl] at n
  | .dct _ _, _, n, _ => by simp [D.nl] at n
  | .tin, _, n, _ => by simp [D.nl] at n
  | .scr _, _, n, _ => by simp [D.nl] at n
theorem Rps.nl (h : ∀ a vs, H a = some (.tup vs) → ¬ M' a) {T' : Option Addr} : ∀ {ds : List D} {vs : List V}, D.nls ds = true → Rps K M T H ds vs → Rps K M' T' H ds vs
  | [], _, _, e => e
  | d :: ds, _, n, ⟨v, r, e, q, t⟩ => by
    have n2 : d.nl = true ∧ D.nls ds = true := by simpa [D.nls] using n
    exact ⟨v, r, e, Rp.nl h n2.1 q, Rps.nl h n2.2 t⟩
end
theorem Rps.length : ∀ {ds : List D} {vs : List V}, Rps K M T H ds vs → vs.length = ds.length
  | [], _, e => by simp only [Rps] at e; subst e; rfl
  | d :: ds, _, ⟨v, r, e, _, t⟩ => by subst e; simp [Rps.length t]
theorem Rps.append : ∀ {ds es : List D} {vs ws : List V}, Rps K M T H ds vs → Rps K M T H es ws → Rps K M T H (ds ++ es) (vs ++ ws)
  | [], es, vs, ws, e, t => by simp only [Rps] at e; subst e; exact t
  | d :: ds, es, _, ws, ⟨v, r, e, q, s⟩, t => by subst e; exact ⟨v, r ++ ws, rfl, q, Rps.append s t⟩
theorem Rps.get : ∀ {ds : List D} {vs : List V} {i : Nat} {d : D}, Rps K M T H ds vs → ds[i]? = some d → ∃ v, vs[i]? = some v ∧ Rp K M T H d v
  | [], _, _, _, _, e => by simp at e
  | d :: ds, _, 0, _, ⟨v, r, e, q, s⟩, h => by subst e; simp at h; subst h; exact ⟨v, rfl, q⟩
  | d :: ds, _, i + 1, _, ⟨v, r, e, q, s⟩, h => by
    subst e
    obtain ⟨w, h1, h2⟩ := Rps.get (i := i) s (by simpa using h)
    exact ⟨w, by simpa using h1, h2⟩
theorem Rps.getV : ∀ {ds : List D} {vs : List V} {i : Nat} {v : V}, Rps K M T H ds vs → vs[i]? = some v → ∃ d, ds[i]? = some d ∧ Rp K M T H d v
  | [], _, _, _, e, h => by simp only [Rps] at e; subst e; simp at h
  | d :: ds, _, 0, _, ⟨v, r, e, q, s⟩, h => by subst e; simp at h; subst h; exact ⟨d, rfl, q⟩
  | d :: ds, _, i + 1, _, ⟨v, r, e, q, s⟩, h => by
    subst e
    obtain ⟨w, h1, h2⟩ := Rps.getV (i := i) s (by simpa using h)
    exact ⟨w, by simpa using h1, h2⟩
theorem Rps.set : ∀ {ds : List D} {vs : List V} {i : Nat} {d : D} {v : V}, Rps K M T H ds vs → Rp K M T H d v → Rps K M T H (ds.set i d) (vs.set i v)
  | [], _, _, _, _, e, _ => by simp only [Rps] at e; subst e; rfl
  | d :: ds, _, 0, _, _, ⟨v, r, e, q, s⟩, h => by subst e; exact ⟨_, r, rfl, h, s⟩
  | d :: ds, _, i + 1, _, _, ⟨v, r, e, q, s⟩, h => by subst e; exact ⟨v, _, rfl, q, Rps.set s h⟩
theorem Rps.take : ∀ {ds : List D} {vs : List V} (n : Nat), Rps K M T H ds vs → Rps K M T H (ds.take n) (vs.take n)
  | [], _, n, e => by simp only [Rps] at e; subst e; simp [Rps]
  | d :: ds, _, 0, ⟨v, r, e, q, s⟩ => by subst e; simp [Rps]
  | d :: ds, _, n + 1, ⟨v, r, e, q, s⟩ => by subst e; exact ⟨v, r.take n, rfl, q, Rps.take n s⟩
theorem Rps.drop : ∀ {ds : List D} {vs : List V} (n : Nat), Rps K M T H ds vs → Rps K M T H (ds.drop n) (vs.drop n)
  | [], _, n, e => by simp only [Rps] at e; subst e; simp [Rps]
  | d :: ds, _, 0, q => q
  | d :: ds, _, n + 1, ⟨v, r, e, q, s⟩ => by subst e; exact Rps.drop n s
theorem Rps.erase : ∀ {ds : List D} {vs : List V} (n : Nat), Rps K M T H ds vs → Rps K M T H (ds.eraseIdx n) (vs.eraseIdx n)
  | [], _, n, e => by simp only [Rps] at e; subst e; simp [Rps]
  | d :: ds, _, 0, ⟨v, r, e, q, s⟩ => by subst e; exact s
  | d :: ds, _, n + 1, ⟨v, r, e, q, s⟩ => by subst e; exact ⟨v, r.eraseIdx n, rfl, q, Rps.erase n s⟩
theorem Rps.one {d : D} {v : V} (h : Rp K M T H d v) : Rps K M T H [d] [v] := ⟨v, [], rfl, h, rfl⟩
theorem Rps.rep {ds : List D} {vs : List V} (h : Rps K M T H ds vs) : ∀ n : Nat, Rps K M T H (List.replicate n ds).flatten (List.replicate n vs).flatten
  | 0 => by simp [Rps]
  | n + 1 => by simp only [List.replicate_succ, List.flatten_cons]; exact h.append (Rps.rep h n)
theorem Rps.ints : ∀ (is : List Int), Rps K M T H (is.map .int) (is.map .int)
  | [] => rfl
  | i :: r => ⟨_, _, rfl, rfl, Rps.ints r⟩
theorem asInts_eq : ∀ {ds : List D} {is : List Int}, asInts ds = some is → ds = is.map .int
  | [], is, h => by cases h; rfl
  | d :: r, is, h => by
    cases d with
    | int i =>
      cases e : asInts r with
      | none => simp [asInts, e] at h
      | some js =>
        simp only [asInts, e, Option.some.injEq] at h
        subst h
        rw [asInts_eq e]; rfl
    | _ => simp [asInts] at h
theorem asBls_eq : ∀ {ds : List D} {is : List Bool}, asBls ds = some is → ds = is.map .bl
  | [], is, h => by cases h; rfl
  | d :: r, is, h => by
    cases d with
    | bl i =>
      cases e : asBls r with
      | none => simp [asBls, e] at h
      | some js =>
        simp only [asBls, e, Option.some.injEq] at h
        subst h
        rw [asBls_eq e]; rfl
    | _ => simp [asBls] at h
theorem asStrs_eq : ∀ {ds : List D} {is : List Str}, asStrs ds = some is → ds = is.map .str
  | [], is, h => by cases h; rfl
  | d :: r, is, h => by
    cases d with
    | str i =>
      cases e : asStrs r with
      | none => simp [asStrs, e] at h
      | some js =>
        simp only [asStrs, e, Option.some.injEq] at h
        subst h
        rw [asStrs_eq e]; rfl
    | _ => simp [asStrs] at h
theorem Rps.int_eq : ∀ {is : List Int} {vs : List V}, Rps K M T H (is.map .int) vs → vs = is.map .int
  | [], _, e => e
  | i :: r, _, ⟨v, w, e, q, t⟩ => by subst e; simp only [Rp] at q; subst q; rw [Rps.int_eq t]; rfl
theorem Rps.bl_eq : ∀ {is : List Bool} {vs : List V}, Rps K M T H (is.map .bl) vs → vs = is.map .bl
  | [], _, e => e
  | i :: r, _, ⟨v, w, e, q, t⟩ => by subst e; simp only [Rp] at q; subst q; rw [Rps.bl_eq t]; rfl
theorem Rps.str_eq : ∀ {is : List Str} {vs : List V}, Rps K M T H (is.map .str) vs → vs = is.map .str
  | [], _, e => e
  | i :: r, _, ⟨v, w, e, q, t⟩ => by subst e; simp only [Rp] at q; subst q; rw [Rps.str_eq t]; rfl
end

/-! ### the source of draws; how the heap goes on -/
def TinAt (T : Option Addr) (H : Hp) (ts : Tin) : Prop :=
  match T with
  | none => True
  | some a => H a = some (.lst (ts.map .int)) ∧ ts.length ≤ LIM
structure Step (T : Option Addr) (H H' : Hp) (ts' : Tin) : Prop where
  keep : ∀ a o, H a = some o → T ≠ some a → H' a = some o
  tin : TinAt T H' ts'
section
variable {T : Option Addr} {H H1 H2 : Hp} {ts ts1 ts2 : Tin}
theorem Step.refl (t : TinAt T H ts) : Step T H H ts := ⟨fun _ _ h _ => h, t⟩
theorem Step.trans (a : Step T H H1 ts1) (b : Step T H1 H2 ts2) : Step T H H2 ts2 := ⟨fun x o h n => b.keep x o (a.keep x o h n) n, b.tin⟩
theorem Step.free (a : Step T H H1 ts1) {p : Addr} (h : H1 p = none) : H p = none := by
  cases e : H p with
  | none => rfl
  | some o =>
    by_cases n : T = some p
    · have t := a.tin
      rw [n] at t
      have t1 : H1 p = some (.lst (ts1.map .int)) := t.1
      rw [h] at t1; cases t1
    · rw [a.keep p o e n] at h; cases h
theorem Step.neT (a : Step T H H1 ts1) {p : Addr} (h : H1 p = none) : T ≠ some p := by
  intro n
  have t := a.tin
  rw [n] at t
  have t1 : H1 p = some (.lst (ts1.map .int)) := t.1
  rw [h] at t1; cases t1
theorem TinAt.upd {p : Addr} {o : HO} (t : TinAt T H ts) (h : H p = none) : TinAt T (upd H p o) ts := by
  cases T with
  | none => trivial
  | some a => exact ⟨by rw [upd_ne (ne_of_none t.1 h)]; exact t.1, t.2⟩
theorem TinAt.ne {p : Addr} (t : TinAt T H ts) (h : H p = none) : T ≠ some p := by
  intro n
  rw [n] at t
  have t1 : H p = some (.lst (ts.map .int)) := t.1
  rw [h] at t1; cases t1
/-- a new thing -/
theorem Step.new {p : Addr} {o : HO} (t : TinAt T H ts) (h : H p = none) : Step T H (L2.upd H p o) ts :=
  ⟨fun a u e _ => by rw [upd_ne (ne_of_none e h)]; exact e, t.upd h⟩
end

/-! ### results -/
def SlR (K : PySem.W.Frag) (M : Addr → Prop) (T : Option Addr) (H : Hp) : R → V → List Addr → Prop
  | .p d, v, _ => Rp K M T H d v
  | .o1 xs, v, A => ∃ a vs, v = .ref a ∧ A = [a] ∧ H a = some (.lst vs) ∧ vs.length ≤ LIM ∧ Rps K M T H xs vs
  | .o2 xss, v, A => ∃ a as, v = .ref a ∧ A = a :: as ∧ H a = some (.lst (as.map .ref)) ∧ as.length ≤ LIM ∧
      Paired (fun (b : Addr) (xs : List D) => ∃ vs, H b = some (.lst vs) ∧ vs.length ≤ LIM ∧ Rps K M T H xs vs) as xss
structure RE (K : PySem.W.Frag) (M : Addr → Prop) (T : Option Addr) (H H' : Hp) (v : V) (r : R) (A : List Addr) : Prop where
  fr : ∀ a ∈ A, H a = none ∧ T ≠ some a ∧ ∃ vs, H' a = some (.lst vs)
  nd : A.Nodup
  sl : SlR K (fun a => M a ∨ a ∈ A) T H' r v A
theorem Paired.map2 {α β : Type} {F G : α → β → Prop} : ∀ {l : List α} {m : List β}, Paired F l m → (∀ a ∈ l, ∀ b, F a b → G a b) → Paired G l m
  | _, _, .nil, _ => .nil
  | _, _, .cons r t, h => .cons (h _ List.mem_cons_self _ r) (Paired.map2 t fun a ha => h a (List.mem_cons_of_mem _ ha))
section
variable {K : PySem.W.Frag} {M M' : Addr → Prop} {T : Option Addr} {H H1 H2 : Hp} {ts1 ts2 : Tin} {v : V} {r : R} {A : List Addr}
theorem SlR.imp (s : SlR K M T H1 r v A) (h : ∀ a o, H1 a = some o → ¬ M a → H2 a = some o ∧ ¬ M' a) (hA : ∀ a ∈ A, ∀ o, H1 a = some o → H2 a = some o) : SlR K M' T H2 r v A := by
  cases r with
  | p d => exact Rp.imp h s
  | o1 xs =>
    obtain ⟨a, vs, e, eA, g, l, q⟩ := s
    exact ⟨a, vs, e, eA, hA a (by rw [eA]; simp) _ g, l, Rps.imp h q⟩
  | o2 xss =>
    obtain ⟨a, as, e, eA, g, l, q⟩ := s
    refine ⟨a, as, e, eA, hA a (by rw [eA]; simp) _ g, l, Paired.map2 q fun b hb xs ⟨vs, g', l', q'⟩ => ⟨vs, hA b (by rw [eA]; simp [hb]) _ g', l', Rps.imp h q'⟩⟩
theorem RE.step (e : RE K M T H H1 v r A) (s : Step T H1 H2 ts2) (hM : ∀ a, T = some a → M a) : RE K M T H H2 v r A :=
  ⟨fun a ha => by
    obtain ⟨x, y, vs, z⟩ := e.fr a ha
    exact ⟨x, y, vs, s.keep a _ z y⟩, e.nd, e.sl.imp (fun a o g n => ⟨s.keep a o g fun t => n (.inl (hM a t)), n⟩) fun a ha o g => s.keep a o g (e.fr a ha).2.1⟩
theorem fz_lst : ∀ {as : List Addr} {xss : List (List D)} (h : Paired (fun (b : Addr) (xs : List D) => ∃ vs, H b = some (.lst vs) ∧ vs.length ≤ LIM ∧ Rps K M T H xs vs) as xss) (hA : ∀ a ∈ as, ¬ M a), Rps K M T H (xss.map .lst) (as.map .ref)
  | _, _, .nil, _ => rfl
  | _, _, .cons (a := b) ⟨vs, g, l, q⟩ t, hA => ⟨.ref b, _, rfl, ⟨b, vs, rfl, g, hA b (by simp), l, q⟩, fz_lst t fun a ha => hA a (by simp [ha])⟩
/-- from now on nobody changes it -/
theorem SlR.fz (s : SlR K M T H r v A) (hA : ∀ a ∈ A, ¬ M' a) (h : ∀ a, M' a → M a) : Rp K M' T H r.fz v := by
  have hi : ∀ a o, H a = some o → ¬ M a → H a = some o ∧ ¬ M' a := fun a o g n => ⟨g, fun m => n (h a m)⟩
  cases r with
  | p d => exact Rp.imp hi s
  | o1 xs =>
    obtain ⟨a, vs, e, eA, g, l, q⟩ := s
    exact ⟨a, vs, e, g, hA a (by rw [eA]; simp), l, Rps.imp hi q⟩
  | o2 xss =>
    obtain ⟨a, as, e, eA, g, l, q⟩ := s
    refine ⟨a, _, e, g, hA a (by rw [eA]; simp), by simpa using l, fz_lst (Paired.map2 q fun b hb xs ⟨vs, g', l', q'⟩ => ⟨vs, g', l', Rps.imp hi q'⟩) fun a ha => hA a (by rw [eA]; simp [ha])⟩
theorem RE.fz (e : RE K M T H H1 v r A) (hM : ∀ a, M a → H a ≠ none) : Rp K M T H1 r.fz v :=
  e.sl.fz (fun a ha m => hM a m (e.fr a ha).1) fun a m => .inl m
theorem RE.p {d : D} (h : Rp K M T H1 d v) : RE K M T H H1 v (.p d) [] :=
  ⟨fun a ha => (by simp at ha), List.nodup_nil, Rp.imp (fun a o g n => ⟨g, by simpa using n⟩) h⟩
theorem RE.from_ (e : RE K M T H1 H2 v r A) (s : Step T H H1 ts1) : RE K M T H H2 v r A :=
  ⟨fun a ha => ⟨s.free (e.fr a ha).1, (e.fr a ha).2⟩, e.nd, e.sl⟩
/-- a new list -/
theorem RE.lst {p : Addr} {vs : List V} {xs : List D} (t : TinAt T H ts1) (h : H p = none) (l : vs.length ≤ LIM) (q : Rps K M T H xs vs) : RE K M T H (upd H p (.lst vs)) (.ref p) (.o1 xs) [p] := by
  refine ⟨fun a ha => ?_, by simp, ⟨p, vs, rfl, rfl, upd_same, l, Rps.imp (fun a o g n => ⟨by rw [upd_ne (ne_of_none g h)]; exact g, ?_⟩) q⟩⟩
  · have e : a = p := by simpa using ha
    subst e
    exact ⟨h, t.ne h, vs, upd_same⟩
  · intro z
    rcases z with z | z
    · exact n z
    · have e : a = p := by simpa using z
      exact ne_of_none g h e
/-- a new tuple -/
theorem RE.tup {p : Addr} {vs : List V} {xs : List D} (hM : ∀ a, M a → H a ≠ none) (h : H p = none) (l : vs.length ≤ LIM) (q : Rps K M T H xs vs) : RE K M T H (upd H p (.tup vs)) (.ref p) (.p (.tup xs)) [] :=
  .p ⟨p, vs, rfl, upd_same, fun m => hM p m h, l, Rps.imp (fun a o g n => ⟨by rw [upd_ne (ne_of_none g h)]; exact g, n⟩) q⟩
end
end Lt

namespace Lt
open PySem PySem.Spec PyProof.Rows L2

def Mof (W : List (List Addr)) (T : Option Addr) : Addr → Prop := fun a => T = some a ∨ a ∈ W.flatten
/-- the slots, the lists of our own, the source -/
structure SR (K : PySem.W.Frag) (ρ : Env) (W : List (List Addr)) (T : Option Addr) (σ : L2.St) (H : Hp) (ts : Tin) : Prop where
  ls : σ.length = ρ.length
  lw : ρ.length ≤ W.length
  slot : ∀ i r, getE ρ i = some r → ∃ v A, σ[i]? = some (some v) ∧ W[i]? = some A ∧ SlR K (Mof W T) T H r v A
  nd : W.flatten.Nodup
  nT : ∀ a ∈ W.flatten, T ≠ some a
  lv : ∀ a ∈ W.flatten, ∃ vs, H a = some (.lst vs)
  tin : TinAt T H ts
section
variable {K : PySem.W.Frag} {ρ : Env} {W : List (List Addr)} {T : Option Addr} {σ : L2.St} {H H1 : Hp} {ts ts1 : Tin}
theorem SR.live (s : SR K ρ W T σ H ts) : ∀ a, Mof W T a → H a ≠ none := fun a h => by
  rcases h with h | h
  · have t := s.tin
    rw [h] at t
    intro z
    have t1 : H a = some (.lst (ts.map .int)) := t.1
    rw [z] at t1; cases t1
  · obtain ⟨vs, e⟩ := s.lv a h
    rw [e]; simp
theorem SR.lists (s : SR K ρ W T σ H ts) : ∀ a, Mof W T a → ∃ vs, H a = some (.lst vs) := fun a h => by
  rcases h with h | h
  · have t := s.tin
    rw [h] at t
    exact ⟨_, t.1⟩
  · exact s.lv a h
theorem mem_flat {a : Addr} {A : List Addr} {i : Nat} (h : W[i]? = some A) (ha : a ∈ A) : a ∈ W.flatten := List.mem_flatten.mpr ⟨A, List.mem_of_getElem? h, ha⟩
theorem SR.step (s : SR K ρ W T σ H ts) (st : Step T H H1 ts1) : SR K ρ W T σ H1 ts1 :=
  ⟨s.ls, s.lw, fun i r h => by
    obtain ⟨v, A, h1, h2, h3⟩ := s.slot i r h
    exact ⟨v, A, h1, h2, h3.imp (fun a o g n => ⟨st.keep a o g fun t => n (.inl t), n⟩) fun a ha o g => st.keep a o g (s.nT a (mem_flat h2 ha))⟩,
    s.nd, s.nT, fun a ha => by
      obtain ⟨vs, e⟩ := s.lv a ha
      exact ⟨vs, st.keep a _ e (s.nT a ha)⟩, st.tin⟩
theorem getE_frozen : ∀ {ρ : Env} {i : Nat} {r : R}, getE (frozen ρ) i = some r → ∃ q, getE ρ i = some q ∧ r = .p q.fz
  | [], _, _, h => by simp [frozen, getE] at h
  | x :: ρ, 0, r, h => by
    cases x with
    | none => simp [frozen, getE] at h
    | some q => simp [frozen, getE] at h; exact ⟨q, rfl, h.symm⟩
  | x :: ρ, i + 1, r, h => getE_frozen (ρ := ρ) (i := i) (by simpa [frozen, getE] using h)
/-- all lists of our own given away: for one look -/
theorem SR.frozen (s : SR K ρ W T σ H ts) : SR K (frozen ρ) (W.map fun _ => []) T σ H ts := by
  have e : (W.map fun _ => ([] : List Addr)).flatten = [] := by
    induction W with
    | nil => rfl
    | cons a r ih => simp
  refine ⟨by simpa [Lt.frozen] using s.ls, by simpa [Lt.frozen] using s.lw, fun i r h => ?_, by rw [e]; exact List.nodup_nil, fun a ha => by rw [e] at ha; simp at ha, fun a ha => by rw [e] at ha; simp at ha, s.tin⟩
  obtain ⟨q, h1, rfl⟩ := getE_frozen h
  obtain ⟨v, A, h2, h3, h4⟩ := s.slot i q h1
  refine ⟨v, [], h2, by simp [h3], h4.fz (M' := Mof (W.map fun _ => []) T) (fun a ha m => ?_) fun a m => ?_⟩
  · rcases m with m | m
    · exact s.nT a (mem_flat h3 ha) m
    · rw [e] at m; simp at m
  · rcases m with m | m
    · exact .inl m
    · rw [e] at m; simp at m
end

/-! ### readings -/
section
variable (K : PySem.W.Frag) (F : FT)
def tE (t : Tm) : TE := fun σ H Q => ∃ ρ W T ts r ts', SR K ρ W T σ H ts ∧ ev F t ρ ts = some (r, ts') ∧ ∀ v H' A, Step T H H' ts' → RE K (Mof W T) T H H' v r A → Q v H'
def tT (t : Tm) : TT := fun σ H Q => ∃ ρ W T ts c ts', SR K ρ W T σ H ts ∧ ev F t ρ ts = some (.p (.bl c), ts') ∧ ∀ H', Step T H H' ts' → Q c H'
def tL (t : Tm) : TA := fun σ H Q => ∃ ρ W T ts ds ts', SR K ρ W T σ H ts ∧ evL F t ρ ts = some (ds, ts') ∧ ∀ vs H', Step T H H' ts' → Rps K (Mof W T) T H' ds vs → Q vs H'
def tO (t : Tm) : TO := fun σ H Q => ∃ ρ W T ts o ts', SR K ρ W T σ H ts ∧ evO F t ρ ts = some (o, ts') ∧ ∀ H', Step T H H' ts' → Q o H'
/-- an iterator that goes through xs, while the things Z lie as they lie -/
structure ItR (J : It) (xs : List D) (Z : List (V × D)) : Prop where
  few : xs.length ≤ LIM
  goes : ∀ M T H i, (∀ p ∈ Z, Rp K M T H p.2 p.1) → i < xs.length → J.go i H
  stops : ∀ M T H, (∀ p ∈ Z, Rp K M T H p.2 p.1) → J.stop xs.length H
  yields : ∀ M T H i x H' d, (∀ a, M a → H a ≠ none) → (∀ p ∈ Z, Rp K M T H p.2 p.1) → xs[i]? = some d → J.yld i H x H' → (H' = H ∨ ∃ p o, H p = none ∧ H' = upd H p o) ∧ Rp K M T H' d x
def tI (t : Tm) : TI := fun σ H R => ∃ ρ W T ts xs ts', SR K ρ W T σ H ts ∧ evI F t ρ ts = some (xs, ts') ∧ ∀ J Z H', Step T H H' ts' → ItR K J xs Z → (∀ p ∈ Z, Rp K (Mof W T) T H' p.2 p.1) → R J H'
end

theorem PE.imp {X : Cx} {e : Expr} {t t' : TE} (h : PE X e t) (i : ∀ σ H Q, t' σ H Q → t σ H Q) : PE X e t' := ⟨fun pins s σ H Q I q => h.run pins s σ H Q I (i σ H Q q)⟩
theorem PT.imp {X : Cx} {e : Expr} {t t' : TT} (h : PT X e t) (i : ∀ σ H Q, t' σ H Q → t σ H Q) : PT X e t' := ⟨fun pins s σ H Q I q => h.run pins s σ H Q I (i σ H Q q)⟩
theorem PW.imp {X : Cx} {e : Expr} {t t' : TT} (h : PW X e t) (i : ∀ σ H Q, t' σ H Q → t σ H Q) : PW X e t' := ⟨fun wh pins s σ H Q I q => h.run wh pins s σ H Q I (i σ H Q q)⟩
theorem PA.imp {X : Cx} {e : List Expr} {t t' : TA} (h : PA X e t) (i : ∀ σ H Q, t' σ H Q → t σ H Q) : PA X e t' := ⟨fun pos pins s σ H Q I q => h.run pos pins s σ H Q I (i σ H Q q)⟩
theorem PS.imp {X : Cx} {e : Stmt} {t t' : TS} (h : PS X e t) (i : ∀ D σ H, t' D σ H → t D σ H) : PS X e t' := ⟨fun pins s σ H D I q => h.run pins s σ H D I (i D σ H q)⟩
theorem PSs.imp {X : Cx} {e : List Stmt} {t t' : TS} (h : PSs X e t) (i : ∀ D σ H, t' D σ H → t D σ H) : PSs X e t' := ⟨fun pins s σ H D I q => h.run pins s σ H D I (i D σ H q)⟩
theorem PI.imp {X : Cx} {tg e : Expr} {t t' : TI} (h : PI X tg e t) (i : ∀ σ H R, t' σ H R → t σ H R) : PI X tg e t' := ⟨fun pins s σ H R I q => h.run pins s σ H R I (i σ H R q)⟩

section
variable {K : PySem.W.Frag} {F : FT} {σ : L2.St} {H : Hp} {Q : VK} {a b c t : Tm}
/-- a test is the value, when it is a truth value -/
theorem tT_tE {t : Tm} {Q : Bool → Hp → Prop} (h : tT K F t σ H Q) : tB (tE K F t) σ H Q := by
  obtain ⟨ρ, W, T, ts, c, ts', s, e, k⟩ := h
  refine ⟨ρ, W, T, ts, _, ts', s, e, fun v H' A st re => ?_⟩
  have q : v = .bl c := re.sl
  exact ⟨c, q, k H' st⟩

/-! ### names and constants -/
theorem i_var {i : Nat} (h : tE K F (.var i) σ H Q) : tVar i σ H Q := by
  obtain ⟨ρ, W, T, ts, r, ts', s, e, k⟩ := h
  simp only [ev] at e
  cases g : getE ρ i with
  | none => simp [g] at e
  | some q =>
    cases q with
    | p d =>
      simp only [g, Option.some.injEq, Prod.mk.injEq] at e
      obtain ⟨rfl, rfl⟩ := e
      obtain ⟨v, A, h1, h2, h3⟩ := s.slot i _ g
      exact ⟨v, h1, k v H [] (.refl s.tin) (.p h3)⟩
    | o1 _ => simp [g] at e
    | o2 _ => simp [g] at e
theorem i_cst {t : Tm} {d : D} {v : V} (ht : ∀ ρ ts, ev F t ρ ts = some (.p d, ts)) (hv : ∀ M T H, Rp K M T H d v) (h : tE K F t σ H Q) : tC v σ H Q := by
  obtain ⟨ρ, W, T, ts, r, ts', s, e, k⟩ := h
  rw [ht] at e
  simp only [Option.some.injEq, Prod.mk.injEq] at e
  obtain ⟨rfl, rfl⟩ := e
  exact k v H [] (.refl s.tin) (.p (hv _ _ _))

/-! ### operations by values -/
/-- r does on values what f does on deep values -/
def Op2 (K : PySem.W.Frag) (f : D → D → Option R) (r : R2) : Prop := ∀ (M : Addr → Prop) (T : Option Addr) (ts : Tin) (H : Hp) (x y : D) (z : R) (v w : V) (Q : VK), TinAt T H ts → (∀ a, T = some a → M a) → (∀ a, M a → H a ≠ none) → f x y = some z → Rp K M T H x v → Rp K M T H y w →
  (∀ u H' A, Step T H H' ts → RE K M T H H' u z A → Q u H') → r v w H Q
theorem i_op2 {t : Tm} {f : D → D → Option R} {r : R2} (ht : ∀ ρ ts, ev F t ρ ts = ev2 f (ev F a ρ) (ev F b ρ) ts) (ho : Op2 K f r) (h : tE K F t σ H Q) : tOp r (tE K F a) (tE K F b) σ H Q := by
  obtain ⟨ρ, W, T, ts, z, ts', s, e, k⟩ := h
  rw [ht] at e
  unfold ev2 at e
  cases e1 : ev F a ρ ts with
  | none => rw [e1] at e; simp at e
  | some p1 =>
    obtain ⟨x, ts1⟩ := p1
    rw [e1] at e
    cases e2 : ev F b ρ ts1 with
    | none => simp only [e2] at e; simp at e
    | some p2 =>
      obtain ⟨y, ts2⟩ := p2
      simp only [e2, Option.map_eq_some_iff] at e
      obtain ⟨z', e3, e4⟩ := e
      simp only [Prod.mk.injEq] at e4
      obtain ⟨rfl, rfl⟩ := e4
      refine ⟨ρ, W, T, ts, x, ts1, s, e1, fun v H1 A1 st1 re1 => ⟨ρ, W, T, ts1, y, ts2, s.step st1, e2, fun w H2 A2 st2 re2 => ?_⟩⟩
      have hv : Rp K (Mof W T) T H2 x.fz v := Rp.imp (fun a o g n => ⟨st2.keep a o g fun t => n (.inl t), n⟩) (re1.fz s.live)
      have hw : Rp K (Mof W T) T H2 y.fz w := re2.fz (s.step st1).live
      exact ho (Mof W T) T ts2 H2 x.fz y.fz z' v w Q st2.tin (fun a h => .inl h) ((s.step st1).step st2).live e3 hv hw fun u H' A st re => k u H' A ((st1.trans st2).trans st) (re.from_ (st1.trans st2))
def Op1 (K : PySem.W.Frag) (f : D → Option R) (r : V → Hp → VK → Prop) : Prop := ∀ (M : Addr → Prop) (T : Option Addr) (ts : Tin) (H : Hp) (x : D) (z : R) (v : V) (Q : VK), TinAt T H ts → (∀ a, T = some a → M a) → (∀ a, M a → H a ≠ none) → f x = some z → Rp K M T H x v →
  (∀ u H' A, Step T H H' ts → RE K M T H H' u z A → Q u H') → r v H Q
theorem i_op1 {t : Tm} {f : D → Option R} {r : V → Hp → VK → Prop} (ht : ∀ ρ ts, ev F t ρ ts = ev1 f (ev F a ρ) ts) (ho : Op1 K f r) (h : tE K F t σ H Q) : tUn r (tE K F a) σ H Q := by
  obtain ⟨ρ, W, T, ts, z, ts', s, e, k⟩ := h
  rw [ht] at e
  unfold ev1 at e
  cases e1 : ev F a ρ ts with
  | none => rw [e1] at e; simp at e
  | some p1 =>
    obtain ⟨x, ts1⟩ := p1
    simp only [e1, Option.map_eq_some_iff] at e
    obtain ⟨z', e3, e4⟩ := e
    simp only [Prod.mk.injEq] at e4
    obtain ⟨rfl, rfl⟩ := e4
    refine ⟨ρ, W, T, ts, x, ts1, s, e1, fun v H1 A1 st1 re1 => ?_⟩
    exact ho (Mof W T) T ts1 H1 x.fz z' v Q st1.tin (fun a h => .inl h) (s.step st1).live e3 (re1.fz s.live) fun u H' A st re => k u H' A (st1.trans st) (re.from_ st1)
/-- the answer is a value that hangs on nothing -/
theorem give {M : Addr → Prop} {T : Option Addr} {ts : Tin} {d : D} {v : V} {Q : VK} (t : TinAt T H ts) (k : ∀ u H' A, Step T H H' ts → RE K M T H H' u (.p d) A → Q u H') (hv : Rp K M T H d v) : Q v H := k v H [] (.refl t) (.p hv)
theorem sizeLim : LIM < sizeLine := by rw [sizeLine_eq]; decide
theorem le_line {n : Nat} (h : n ≤ LIM) : n ≤ sizeLine := Nat.le_of_lt (Nat.lt_of_le_of_lt h sizeLim)
end
end Lt

namespace Lt
open PySem PySem.Spec PyProof.Rows L2
section
variable {K : PySem.W.Frag}

theorem len0 {M : Addr → Prop} {T : Option Addr} {H : Hp} {ds : List D} {vs : List V} (r : Rps K M T H ds vs) (h : vs = []) : ds = [] := by
  have e := r.length
  rw [h] at e
  exact List.length_eq_zero_iff.mp e.symm
def rAddK (K : PySem.W.Frag) : R2 := fun x y H Q => rI0 (fun i j => .int (i + j)) x y H Q ∨ (rCat x y H Q ∨ rCatA K x y H Q)
theorem o_add : Op2 K addD (rAddK K) := by
  intro M T ts H x y z v w Q t hT hM e hx hy k
  cases x <;> cases y <;> simp only [addD, reduceCtorEq, Option.some.injEq] at e
  case int.int i j =>
    subst e
    exact .inl ⟨i, j, hx, hy, give t k rfl⟩
  case lst.lst xs ys =>
    split at e
    case isFalse => simp at e
    case isTrue hl =>
      simp only [Option.some.injEq] at e
      subst e
      obtain ⟨a, vs, rfl, g, m, l, r⟩ := hx
      obtain ⟨b, ws, rfl, g', m', l', r'⟩ := hy
      have lv := r.length
      have lw := r'.length
      refine .inr (.inl ⟨a, b, vs, ws, rfl, rfl, g, g', by have := sizeLim; omega, fun p hp => k _ _ [p] (.new t hp) (.lst t hp (by rw [List.length_append]; omega) (r.append r'))⟩)
  case tup.tup xs ys =>
    split at e
    case isFalse => simp at e
    case isTrue hl =>
      simp only [Option.some.injEq] at e
      subst e
      obtain ⟨a, vs, rfl, g, m, l, r⟩ := hx
      obtain ⟨b, ws, rfl, g', m', l', r'⟩ := hy
      have lv := r.length
      have lw := r'.length
      refine .inr (.inr ⟨a, b, vs, ws, rfl, rfl, SqT.of g, SqT.of g', by have := sizeLim; omega, fun h => ?_, fun _ h => ?_, fun _ _ p hp => ?_⟩)
      · have e1 := len0 r h
        subst e1
        exact give t k ⟨b, ws, rfl, g', m', l', r'⟩
      · have e1 := len0 r' h
        subst e1
        rw [List.append_nil] at k
        exact give t k ⟨a, vs, rfl, g, m, l, r⟩
      · exact k _ _ [] (.new t hp) (.tup hM hp (by rw [List.length_append]; omega) (r.append r'))
theorem o_sub : Op2 K subD (rI0 fun i j => .int (i - j)) := by
  intro M T ts H x y z v w Q t hT hM e hx hy k
  cases x <;> cases y <;> simp only [subD, reduceCtorEq, Option.some.injEq] at e
  case int.int i j =>
    subst e
    exact ⟨i, j, hx, hy, give t k rfl⟩
theorem o_mod : Op2 K modD (rI (fun _ j => 0 < j) fun i j => .int (i % j)) := by
  intro M T ts H x y z v w Q t hT hM e hx hy k
  cases x <;> cases y <;> simp only [modD, reduceCtorEq, Option.some.injEq] at e
  case int.int i j =>
    split at e
    case isFalse => simp at e
    case isTrue hl =>
      simp only [Option.some.injEq] at e
      subst e
      exact ⟨i, j, hx, hy, hl, give t k rfl⟩
theorem o_fdiv : Op2 K fdivD (rI CDiv fun i j => .int (i / j)) := by
  intro M T ts H x y z v w Q t hT hM e hx hy k
  cases x <;> cases y <;> simp only [fdivD, reduceCtorEq, Option.some.injEq] at e
  case int.int i j =>
    split at e
    case isFalse => simp at e
    case isTrue hl =>
      simp only [Option.some.injEq] at e
      subst e
      exact ⟨i, j, hx, hy, hl, give t k rfl⟩
theorem o_pow : Op2 K powD (rI CPow fun i j => .int (i ^ j.toNat)) := by
  intro M T ts H x y z v w Q t hT hM e hx hy k
  cases x <;> cases y <;> simp only [powD, reduceCtorEq, Option.some.injEq] at e
  case int.int i j =>
    split at e
    case isFalse => simp at e
    case isTrue hl =>
      simp only [Option.some.injEq] at e
      subst e
      exact ⟨i, j, hx, hy, ⟨hl.1, by omega, by have := hl.2.2.1; have := hl.2.2.2; omega⟩, give t k rfl⟩
theorem o_neg : Op1 K negD (rU fun i => .int (-i)) := by
  intro M T ts H x z v Q t hT hM e hx k
  cases x <;> simp only [negD, reduceCtorEq, Option.some.injEq] at e
  case int i =>
    subst e
    exact ⟨i, hx, give t k rfl⟩

/-! ### t * k -/
/-- t * 1: the tuple itself -/
def rRep1 (K : PySem.W.Frag) : R2 := fun x y H Q => ∃ l xs, x = .ref l ∧ y = .int 1 ∧ SqT K H l xs ∧ Q (.ref l) H
def rMulK (K : PySem.W.Frag) : R2 := fun x y H Q => rI CMul (fun i j => .int (i * j)) x y H Q ∨ (rRep1 K x y H Q ∨ rRepT K x y H Q)
theorem small_mul {i j : Int} (h : (smallI i || smallI j) = true) : CMul i j := by
  simp only [smallI, Bool.or_eq_true, Bool.and_eq_true, decide_eq_true_eq] at h
  exact h
theorem o_mul : Op2 K mulD (rMulK K) := by
  intro M T ts H x y z v w Q t hT hM e hx hy k
  cases x <;> cases y <;> simp only [mulD, reduceCtorEq, Option.some.injEq] at e
  case int.int i j =>
    split at e
    case isFalse => simp at e
    case isTrue hl =>
      simp only [Option.some.injEq] at e
      subst e
      exact .inl ⟨i, j, hx, hy, small_mul hl, give t k rfl⟩
  case tup.int xs n =>
    split at e
    case isFalse => simp at e
    case isTrue hl =>
      simp only [Option.some.injEq] at e
      subst e
      obtain ⟨a, vs, rfl, g, m, l, r⟩ := hx
      obtain rfl : w = .int n := hy
      have lv := r.length
      by_cases h1 : n = 1
      · subst h1
        have e2 : (List.replicate (1 : Int).toNat xs).flatten = xs := by
          show (List.replicate 1 xs).flatten = xs
          simp
        rw [e2] at k
        exact .inr (.inl ⟨a, vs, rfl, rfl, SqT.of g, give t k ⟨a, vs, rfl, g, m, l, r⟩⟩)
      · refine .inr (.inr ⟨a, n, vs, rfl, rfl, SqT.of g, ?_, by omega, by omega, by omega, fun p hp => k _ _ [] (.new t hp) (.tup hM hp ?_ (r.rep _))⟩)
        · intro z
          rw [z] at lv
          exact hl.1 lv.symm
        · rw [List.length_flatten, List.map_replicate, List.sum_replicate_nat, lv]
          have h1 : n.toNat ≤ 1000 := by omega
          have h2 : xs.length ≤ 1000 := hl.2.2.2
          exact Nat.le_trans (Nat.mul_le_mul h1 h2) (by decide)
end
theorem tuple_mul1 (l : Addr) (items : Array Value) (n : Nat) (sl : Array (Option Value)) (dd : Option Addr) (u : Tok) (hc : (items.isEmpty || (1 : Int) == 1) = true) :
    Meets (Builtin.«tuple.__mul__» ⟨[.ref l, .int 1 u], []⟩) (fun _ R s => s.heap.get? l = some { cls := .type "tuple", dict := dd, data := .seq items n, slots := sl } ∧ R (.ok (.ret (Value.ref l))) { s with heap := s.heap, toks := s.toks }) :=
  .of_wp fun prog w A R s h => by
    obtain ⟨hp, g, d, tk, os⟩ := s
    obtain ⟨hl, h⟩ := h
    have f1 := AutoSeq1.idx_int
    wp_walk using wpAny_loadPart' hl
    exact ⟨_, rfl, h⟩
section
variable {X : Cx}
theorem op_rep1 : OpR X (binaryOp .Mult) (rRep1 X.K) := by
  intro pins s σ H x y v u Q I rx ry h
  obtain ⟨l, xs, rfl, rfl, hT, q⟩ := h
  cases rx
  obtain ⟨t, rfl⟩ := ry
  obtain ⟨its, r, ⟨⟨cls, dd, data, sl⟩, ho, hc, n, hd⟩, hs⟩ := I.tuple hT
  simp only at hc hd
  subst hc hd
  refine wpAny_binaryOp_repeat_ref (T := "tuple") (U := "int") (by decide) ⟨_, ho, rfl⟩ (fun s' => typeIs_int s' 1 t) noFill_tuple_mul F.fills_int_mul F.slot_int_rmul repeat_tuple F.slot_int_index.lookup
    (call_meets F.slot_int_rmul (typeIs_int s 1 t) F.entry_int_rmul (F.args_int_rmul_2 _ _) (int_rmul_tuple 1 t l its.toArray n dd sl)
      ⟨ho, rfl, ⟨_, ho, rfl⟩, call_meets F.slot_tuple_mul ⟨_, ho, rfl⟩ F.entry_tuple_mul (F.args_tuple_mul_2 _ _) (tuple_mul1 l its.toArray n sl dd t (by simp)) ⟨ho, ?_⟩⟩)
  exact ⟨.ref l, H, I.tok s.toks, rfl, q⟩
theorem r_add : OpR X (binaryOp .Add) (rAddK X.K) := op_add.or (op_cat.or op_catA)
theorem r_mul : OpR X (binaryOp .Mult) (rMulK X.K) := op_mul.or (op_rep1.or op_repT)
end

/-! ### comparisons -/
section
variable {K : PySem.W.Frag}
mutual
theorem Rp.dp {M : Addr → Prop} {T : Option Addr} {H : Hp} : ∀ {d : D} {v : V}, d.pd.canLay0 = true → Rp K M T H d v → Dp K H v d.pd
  | .non, _, _, e => by cases (show _ = V.non from e); exact .non
  | .bl b, _, _, e => by cases (show _ = V.bl b from e); exact .bl b
  | .int i, _, _, e => by cases (show _ = V.int i from e); exact .int i
  | .str x, _, _, e => by cases (show _ = V.str x from e); exact .str x
  | .tup ds, _, h, ⟨a, vs, e, g, m, l, r⟩ => by subst e; exact .tup (SqT.of g) (Rps.dp (by simpa [D.pd, PyData.canLay0] using h) r)
  | .lst ds, _, h, ⟨a, vs, e, g, m, l, r⟩ => by subst e; exact .lst (SqL.of g) (Rps.dp (by simpa [D.pd, PyData.canLay0] using h) r)
  | .dct _ _, _, h, _ => by simp [D.pd, PyData.canLay0] at h
  | .tin, _, h, _ => by simp [D.pd, PyData.canLay0] at h
  | .scr _, _, h, _ => by simp [D.pd, PyData.canLay0] at h
theorem Rps.dp {M : Addr → Prop} {T : Option Addr} {H : Hp} : ∀ {ds : List D} {vs : List V}, PyData.canLayAll0 (D.pds ds) = true → Rps K M T H ds vs → DpAll K H vs (D.pds ds)
  | [], _, _, e => by cases (show _ = ([] : List V) from e); exact .nil
  | d :: ds, _, h, ⟨v, r, e, q, s⟩ => by
    subst e
    have h2 : d.pd.canLay0 = true ∧ PyData.canLayAll0 (D.pds ds) = true := by simpa [D.pds, PyData.canLayAll0] using h
    exact .cons (Rp.dp h2.1 q) (Rps.dp h2.2 s)
end
theorem ok_lay {d : D} (h : d.ok = true) : d.pd.canLay0 = true := SeqAt.canLay_of_shaped h
theorem Rp.scal {M : Addr → Prop} {T : Option Addr} {H : Hp} {d : D} {v u : V} (h : d.sc = some u) (r : Rp K M T H d v) : v = u := by
  cases d <;> simp only [D.sc, Option.some.injEq, reduceCtorEq] at h <;> subst h <;> exact r
def rEqK (K : PySem.W.Frag) : R2 := fun x y H Q => rEq x y H Q ∨ rEqD K x y H Q
def rNeK (K : PySem.W.Frag) : R2 := fun x y H Q => rNe x y H Q ∨ rNeD K x y H Q
theorem eq_ways {M : Addr → Prop} {T : Option Addr} {H : Hp} {x y : D} {v w : V} {c : Bool} (e : eqD x y = some c) (hx : Rp K M T H x v) (hy : Rp K M T H y w) :
    (scal v w = true ∧ decide (v = w) = c) ∨ (Dp K H v x.pd ∧ Dp K H w y.pd ∧ SeqAt.shaped x.pd = true ∧ SeqAt.shaped y.pd = true ∧ PyData.eqv x.pd y.pd = c) := by
  unfold eqD at e
  split at e
  · rename_i a b ha hb
    have e1 := Rp.scal ha hx
    have e2 := Rp.scal hb hy
    subst e1; subst e2
    split at e
    · rename_i hs
      exact .inl ⟨hs, Option.some.inj e⟩
    · simp at e
  · split at e
    · rename_i hok
      have h2 := Bool.and_eq_true_iff.mp hok
      exact .inr ⟨hx.dp (ok_lay h2.1), hy.dp (ok_lay h2.2), h2.1, h2.2, Option.some.inj e⟩
    · simp at e
def cmpR (o : Cop) (x y : D) : Option R := (cmpD o x y).map fun c => .p (.bl c)
theorem o_eq : Op2 K (cmpR .eq) (rEqK K) := by
  intro M T ts H x y z v w Q t hT hM e hx hy k
  obtain ⟨c, e1, rfl⟩ := Option.map_eq_some_iff.mp e
  rcases eq_ways (show eqD x y = some c from e1) hx hy with ⟨h1, h2⟩ | ⟨h1, h2, h3, h4, h5⟩
  · exact .inl ⟨h1, by rw [h2]; exact give t k rfl⟩
  · exact .inr ⟨x.pd, y.pd, h1, h2, h3, h4, by rw [h5]; exact give t k rfl⟩
theorem o_ne : Op2 K (cmpR .ne) (rNeK K) := by
  intro M T ts H x y z v w Q t hT hM e hx hy k
  obtain ⟨c, e1, rfl⟩ := Option.map_eq_some_iff.mp e
  simp only [cmpD] at e1
  cases e2 : eqD x y with
  | none => simp [e2] at e1
  | some c' =>
    simp only [e2, Option.some.injEq] at e1
    subst e1
    rcases eq_ways e2 hx hy with ⟨h1, h2⟩ | ⟨h1, h2, h3, h4, h5⟩
    · exact .inl ⟨h1, by rw [h2]; exact give t k rfl⟩
    · exact .inr ⟨x.pd, y.pd, h1, h2, h3, h4, by rw [h5]; exact give t k rfl⟩
theorem o_int {o : Cop} {g : Int → Int → Bool} (hg : ∀ x y, cmpD o x y = match x, y with
    | .int i, .int j => some (g i j)
    | _, _ => none) : Op2 K (cmpR o) (rI0 fun i j => .bl (g i j)) := by
  intro M T ts H x y z v w Q t hT hM e hx hy k
  obtain ⟨c, e1, rfl⟩ := Option.map_eq_some_iff.mp e
  rw [hg] at e1
  cases x <;> cases y <;> simp only [reduceCtorEq, Option.some.injEq] at e1
  case int.int i j =>
    subst e1
    exact ⟨i, j, hx, hy, give t k rfl⟩
theorem o_lt : Op2 K (cmpR .lt) (rI0 fun i j => .bl (decide (i < j))) := o_int fun x y => by cases x <;> cases y <;> rfl
theorem o_le : Op2 K (cmpR .le) (rI0 fun i j => .bl (decide (i ≤ j))) := o_int fun x y => by cases x <;> cases y <;> rfl
theorem o_gt : Op2 K (cmpR .gt) (rI0 fun i j => .bl (decide (j < i))) := o_int fun x y => by cases x <;> cases y <;> rfl
theorem o_ge : Op2 K (cmpR .ge) (rI0 fun i j => .bl (decide (j ≤ i))) := o_int fun x y => by cases x <;> cases y <;> rfl
/-- is None -/
theorem non_iff {M : Addr → Prop} {T : Option Addr} {H : Hp} {x : D} {v : V} (r : Rp K M T H x v) : decide (v = .non) = (match x with
    | .non => true
    | _ => false) := by
  cases x with
  | non => cases (show v = .non from r); rfl
  | bl b => cases (show v = .bl b from r); rfl
  | int b => cases (show v = .int b from r); rfl
  | str b => cases (show v = .str b from r); rfl
  | tup b => obtain ⟨a, _, rfl, _⟩ := r; rfl
  | lst b => obtain ⟨a, _, rfl, _⟩ := r; rfl
  | dct b c => obtain ⟨a, _, rfl, _⟩ := r; rfl
  | tin => obtain ⟨a, _, rfl⟩ := r; rfl
  | scr ns => obtain ⟨a, rfl, _⟩ := r; rfl
theorem o_is : Op2 K (cmpR .is_) (fun x y H Q => y = .non ∧ Q (.bl (decide (x = .non))) H) := by
  intro M T ts H x y z v w Q t hT hM e hx hy k
  obtain ⟨c, e1, rfl⟩ := Option.map_eq_some_iff.mp e
  cases y <;> simp only [cmpD, reduceCtorEq] at e1
  refine ⟨hy, ?_⟩
  rw [non_iff hx]
  cases x <;> simp only [Option.some.injEq] at e1 <;> subst e1 <;> exact give t k rfl
theorem o_isn : Op2 K (cmpR .isn) (fun x y H Q => y = .non ∧ Q (.bl (!decide (x = .non))) H) := by
  intro M T ts H x y z v w Q t hT hM e hx hy k
  obtain ⟨c, e1, rfl⟩ := Option.map_eq_some_iff.mp e
  cases y <;> simp only [cmpD, reduceCtorEq] at e1
  refine ⟨hy, ?_⟩
  rw [non_iff hx]
  cases x <;> simp only [Option.some.injEq] at e1 <;> subst e1 <;> exact give t k rfl
/-- in, not in -/
def rInS : R2 := fun x y H Q => ∃ i j, x = .str i ∧ y = .str j ∧ Q (.bl (!(Builtin.Str.occurrences j i 0 j.length 1).isEmpty)) H
def rNinS : R2 := fun x y H Q => ∃ i j, x = .str i ∧ y = .str j ∧ Q (.bl (!(!(Builtin.Str.occurrences j i 0 j.length 1).isEmpty))) H
def rInK (K : PySem.W.Frag) : R2 := fun x y H Q => rInD K x y H Q ∨ (rIn K false x y H Q ∨ rInS x y H Q)
def rNinK (K : PySem.W.Frag) : R2 := fun x y H Q => rNotInD K x y H Q ∨ (rIn K true x y H Q ∨ rNinS x y H Q)
theorem pds_any {d : PyData} : ∀ {ds : List D}, (D.pds ds).any (fun z => PyData.eqv z d) = ds.any fun z => PyData.eqv z.pd d
  | [] => rfl
  | x :: r => by simp only [D.pds, List.any_cons, pds_any (ds := r)]
theorem inV_ints {i : Int} : ∀ {is : List Int}, inV (.int i) (is.map .int) = decide (i ∈ is)
  | [] => by simp [inV]
  | j :: r => by
    have ih := inV_ints (i := i) (is := r)
    have e : inV (.int i) ((j :: r).map .int) = ((j == i) || inV (.int i) (r.map .int)) := rfl
    rw [e, ih]
    by_cases h : j = i
    · subst h; simp
    · have h' : ¬ i = j := fun e => h e.symm
      simp [h, h']
theorem flat_ints (is : List Int) : (is.map V.int).all flatV = true := by
  rw [List.all_eq_true]
  intro v hv
  obtain ⟨i, _, rfl⟩ := List.mem_map.mp hv
  rfl
theorem in_ways {M : Addr → Prop} {T : Option Addr} {H : Hp} {x y : D} {v w : V} {c : Bool} (e : inD x y = some c) (hx : Rp K M T H x v) (hy : Rp K M T H y w) :
    (∃ d ds, Dp K H v d ∧ Dp K H w (.list ds) ∧ SeqAt.shaped d = true ∧ SeqAt.shaped (.list ds) = true ∧ (ds.any fun z => PyData.eqv z d) = c) ∨
    (∃ p xs, w = .ref p ∧ (SqL K H p xs ∨ SqT K H p xs) ∧ flatV v = true ∧ xs.all flatV = true ∧ inV v xs = c) ∨
    (∃ i j, v = .str i ∧ w = .str j ∧ (!(Builtin.Str.occurrences j i 0 j.length 1).isEmpty) = c) := by
  cases y <;> simp only [inD, reduceCtorEq] at e
  case lst ds =>
    split at e
    · rename_i hok
      have h2 := Bool.and_eq_true_iff.mp hok
      refine .inl ⟨x.pd, D.pds ds, hx.dp (ok_lay h2.1), by simpa [D.pd] using hy.dp (ok_lay h2.2), h2.1, by simpa [D.ok, D.pd] using h2.2, ?_⟩
      rw [pds_any]
      exact Option.some.inj e
    · simp at e
  case tup ds =>
    cases x
    case int i =>
      cases e2 : asInts ds with
      | none => simp [e2] at e
      | some is =>
        simp only [e2, Option.some.injEq] at e
        subst e
        have e3 := asInts_eq e2
        subst e3
        obtain ⟨a, vs, rfl, g, m, l, r⟩ := hy
        have e4 := r.int_eq
        subst e4
        cases (show v = .int i from hx)
        exact .inr (.inl ⟨a, _, rfl, .inr (SqT.of g), rfl, flat_ints is, inV_ints⟩)
    all_goals simp at e
  case str j =>
    cases x <;> simp only [reduceCtorEq, Option.some.injEq] at e
    case str i =>
      exact .inr (.inr ⟨i, j, hx, hy, e⟩)
theorem o_in : Op2 K (cmpR .in_) (rInK K) := by
  intro M T ts H x y z v w Q t hT hM e hx hy k
  obtain ⟨c, e1, rfl⟩ := Option.map_eq_some_iff.mp e
  rcases in_ways (show inD x y = some c from e1) hx hy with ⟨d, ds, h1, h2, h3, h4, h5⟩ | ⟨p, xs, h1, h2, h3, h4, h5⟩ | ⟨i, j, h1, h2, h3⟩
  · exact .inl ⟨d, ds, h1, h2, h3, h4, by rw [h5]; exact give t k rfl⟩
  · exact .inr (.inl ⟨p, xs, h1, h2, h3, h4, by show Q (.bl (inV v xs)) H; rw [h5]; exact give t k rfl⟩)
  · exact .inr (.inr ⟨i, j, h1, h2, by rw [h3]; exact give t k rfl⟩)
theorem o_nin : Op2 K (cmpR .nin) (rNinK K) := by
  intro M T ts H x y z v w Q t hT hM e hx hy k
  obtain ⟨c, e1, rfl⟩ := Option.map_eq_some_iff.mp e
  simp only [cmpD] at e1
  cases e2 : inD x y with
  | none => simp [e2] at e1
  | some c' =>
    simp only [e2, Option.some.injEq] at e1
    subst e1
    rcases in_ways e2 hx hy with ⟨d, ds, h1, h2, h3, h4, h5⟩ | ⟨p, xs, h1, h2, h3, h4, h5⟩ | ⟨i, j, h1, h2, h3⟩
    · exact .inl ⟨d, ds, h1, h2, h3, h4, by rw [h5]; exact give t k rfl⟩
    · exact .inr (.inl ⟨p, xs, h1, h2, h3, h4, by show Q (.bl (!inV v xs)) H; rw [h5]; exact give t k rfl⟩)
    · exact .inr (.inr ⟨i, j, h1, h2, by rw [h3]; exact give t k rfl⟩)
end
/-- the rules, by the operator -/
def copE : Cop → CmpOp
  | .lt => .Lt
  | .le => .LtE
  | .gt => .Gt
  | .ge => .GtE
  | .eq => .Eq
  | .ne => .NotEq
  | .in_ => .In
  | .nin => .NotIn
  | .is_ => .Is
  | .isn => .IsNot
def copR (K : PySem.W.Frag) : Cop → R2
  | .lt => rI0 fun i j => .bl (decide (i < j))
  | .le => rI0 fun i j => .bl (decide (i ≤ j))
  | .gt => rI0 fun i j => .bl (decide (j < i))
  | .ge => rI0 fun i j => .bl (decide (j ≤ i))
  | .eq => rEqK K
  | .ne => rNeK K
  | .in_ => rInK K
  | .nin => rNinK K
  | .is_ => fun x y H Q => y = .non ∧ Q (.bl (decide (x = .non))) H
  | .isn => fun x y H Q => y = .non ∧ Q (.bl (!decide (x = .non))) H
theorem o_cop {K : PySem.W.Frag} : ∀ o : Cop, Op2 K (cmpR o) (copR K o)
  | .lt => o_lt
  | .le => o_le
  | .gt => o_gt
  | .ge => o_ge
  | .eq => o_eq
  | .ne => o_ne
  | .in_ => o_in
  | .nin => o_nin
  | .is_ => o_is
  | .isn => o_isn
theorem r_cop {X : Cx} (hu : X.A.units + 65 < cLine) : ∀ o : Cop, OpR X (compareOp (copE o)) (copR X.K o)
  | .lt => op_lt
  | .le => op_le
  | .gt => op_gt
  | .ge => op_ge
  | .eq => op_eq.or (op_eqD (by omega))
  | .ne => op_ne.or (op_neD (by omega))
  | .in_ => (op_inD hu).or (op_in_seq.or op_in_str)
  | .nin => (op_notInD hu).or (op_notIn_seq.or op_notIn_str)
  | .is_ => op_isN
  | .isn => op_notN
end Lt

namespace Lt
open PySem PySem.Spec PyProof.Rows L2
section
variable {K : PySem.W.Frag} {F : FT} {σ : L2.St} {H : Hp} {Q : VK} {a b c t : Tm}

theorem i_cmp {o : Cop} (h : tE K F (.cmp o a b) σ H Q) : tOp (copR K o) (tE K F a) (tE K F b) σ H Q :=
  i_op2 (f := cmpR o) (fun ρ ts => by simp only [ev]; rfl) (o_cop o) h
/-- what an operation's answer is, when it is a truth value -/
theorem i_cmpT {o : Cop} {Q : Bool → Hp → Prop} (h : tT K F (.cmp o a b) σ H Q) : tTest (tOp (copR K o) (tE K F a) (tE K F b)) σ H Q :=
  i_cmp (tT_tE h)
theorem keepM {M : Addr → Prop} {T : Option Addr} {H1 H2 : Hp} {ts : Tin} {d : D} {v : V} (st : Step T H1 H2 ts) (hT : ∀ a, T = some a → M a) (r : Rp K M T H1 d v) : Rp K M T H2 d v :=
  Rp.imp (fun a o g n => ⟨st.keep a o g fun t => n (hT a t), n⟩) r
theorem keepMs {M : Addr → Prop} {T : Option Addr} {H1 H2 : Hp} {ts : Tin} {d : List D} {v : List V} (st : Step T H1 H2 ts) (hT : ∀ a, T = some a → M a) (r : Rps K M T H1 d v) : Rps K M T H2 d v :=
  Rps.imp (fun a o g n => ⟨st.keep a o g fun t => n (hT a t), n⟩) r
theorem hTM {W : List (List Addr)} {T : Option Addr} : ∀ a, T = some a → Mof W T a := fun _ h => .inl h
theorem i_chn {o1 o2 : Cop} (h : tE K F (.chn o1 o2 a b c) σ H Q) : tChain (copR K o1) (copR K o2) (tE K F a) (tE K F b) (tE K F c) σ H Q := by
  obtain ⟨ρ, W, T, ts, z, ts', s, e, k⟩ := h
  simp only [ev] at e
  cases e1 : ev F a ρ ts with
  | none => simp [e1] at e
  | some p1 =>
    obtain ⟨x, ts1⟩ := p1
    cases e2 : ev F b ρ ts1 with
    | none => simp [e1, e2] at e
    | some p2 =>
      obtain ⟨y, ts2⟩ := p2
      simp only [e1, e2] at e
      refine ⟨ρ, W, T, ts, x, ts1, s, e1, fun v H1 A1 st1 re1 => ⟨ρ, W, T, ts1, y, ts2, s.step st1, e2, fun w H2 A2 st2 re2 => ?_⟩⟩
      have hv : Rp K (Mof W T) T H2 x.fz v := keepM st2 hTM (re1.fz s.live)
      have hw : Rp K (Mof W T) T H2 y.fz w := re2.fz (s.step st1).live
      have s2 := (s.step st1).step st2
      cases e3 : cmpD o1 x.fz y.fz with
      | none => simp [e3] at e
      | some c1 =>
        refine o_cop o1 (Mof W T) T ts2 H2 x.fz y.fz (.p (.bl c1)) v w _ st2.tin hTM s2.live (by unfold cmpR; rw [e3]; rfl) hv hw fun u H3 A3 st3 re3 => ?_
        have eu : u = .bl c1 := re3.sl
        refine ⟨c1, eu, ?_⟩
        cases c1 with
        | false =>
          simp only [e3, Option.some.injEq, Prod.mk.injEq] at e
          obtain ⟨rfl, rfl⟩ := e
          exact iteF (k _ H3 [] ((st1.trans st2).trans st3) (.p rfl))
        | true =>
          simp only [e3] at e
          refine iteT ?_
          cases e4 : ev F c ρ ts2 with
          | none => simp [e4] at e
          | some p4 =>
            obtain ⟨z4, ts4⟩ := p4
            simp only [e4] at e
            have s3 := s2.step st3
            refine ⟨ρ, W, T, ts2, z4, ts4, s3, e4, fun w4 H4 A4 st4 re4 => ?_⟩
            cases e5 : cmpD o2 y.fz z4.fz with
            | none => simp [e5] at e
            | some c2 =>
              simp only [e5, Option.some.injEq, Prod.mk.injEq] at e
              obtain ⟨rfl, rfl⟩ := e
              have hw4 := keepM st4 hTM (keepM st3 hTM hw)
              have hz4 : Rp K (Mof W T) T H4 z4.fz w4 := re4.fz s3.live
              refine o_cop o2 (Mof W T) T ts4 H4 y.fz z4.fz (.p (.bl c2)) w w4 _ st4.tin hTM (s3.step st4).live (by unfold cmpR; rw [e5]; rfl) hw4 hz4 fun u H5 A5 st5 re5 => ?_
              exact k u H5 A5 ((((st1.trans st2).trans st3).trans st4).trans st5) (re5.from_ (((st1.trans st2).trans st3).trans st4))
theorem i_chnT {o1 o2 : Cop} {Q : Bool → Hp → Prop} (h : tT K F (.chn o1 o2 a b c) σ H Q) : tTest (tChain (copR K o1) (copR K o2) (tE K F a) (tE K F b) (tE K F c)) σ H Q := i_chn (tT_tE h)

/-! ### and, or, not, if -/
theorem i_andT {Q : Bool → Hp → Prop} (h : tT K F (.and_ a b) σ H Q) : tAnd (tT K F a) (tT K F b) σ H Q := by
  obtain ⟨ρ, W, T, ts, c, ts', s, e, k⟩ := h
  simp only [ev] at e
  split at e
  · rename_i ts1 e1
    refine ⟨ρ, W, T, ts, true, ts1, s, e1, fun H1 st1 => iteT ?_⟩
    unfold evB at e
    split at e
    · rename_i c2 ts2 e2
      simp only [Option.some.injEq, Prod.mk.injEq, R.p.injEq, D.bl.injEq] at e
      obtain ⟨rfl, rfl⟩ := e
      exact ⟨ρ, W, T, ts1, c2, ts2, s.step st1, e2, fun H2 st2 => k H2 (st1.trans st2)⟩
    · simp at e
  · rename_i ts1 e1
    simp only [Option.some.injEq, Prod.mk.injEq, R.p.injEq, D.bl.injEq] at e
    obtain ⟨rfl, rfl⟩ := e
    exact ⟨ρ, W, T, ts, false, ts1, s, e1, fun H1 st1 => iteF (k H1 st1)⟩
  · simp at e
theorem i_orT {Q : Bool → Hp → Prop} (h : tT K F (.or_ a b) σ H Q) : tOr (tT K F a) (tT K F b) σ H Q := by
  obtain ⟨ρ, W, T, ts, c, ts', s, e, k⟩ := h
  simp only [ev] at e
  split at e
  · rename_i ts1 e1
    simp only [Option.some.injEq, Prod.mk.injEq, R.p.injEq, D.bl.injEq] at e
    obtain ⟨rfl, rfl⟩ := e
    exact ⟨ρ, W, T, ts, true, ts1, s, e1, fun H1 st1 => iteT (k H1 st1)⟩
  · rename_i ts1 e1
    refine ⟨ρ, W, T, ts, false, ts1, s, e1, fun H1 st1 => iteF ?_⟩
    unfold evB at e
    split at e
    · rename_i c2 ts2 e2
      simp only [Option.some.injEq, Prod.mk.injEq, R.p.injEq, D.bl.injEq] at e
      obtain ⟨rfl, rfl⟩ := e
      exact ⟨ρ, W, T, ts1, c2, ts2, s.step st1, e2, fun H2 st2 => k H2 (st1.trans st2)⟩
    · simp at e
  · simp at e
theorem i_notT {Q : Bool → Hp → Prop} (h : tT K F (.not_ a) σ H Q) : tNot (tT K F a) σ H Q := by
  obtain ⟨ρ, W, T, ts, c, ts', s, e, k⟩ := h
  simp only [ev] at e
  split at e
  · rename_i c1 ts1 e1
    simp only [Option.some.injEq, Prod.mk.injEq, R.p.injEq, D.bl.injEq] at e
    obtain ⟨rfl, rfl⟩ := e
    exact ⟨ρ, W, T, ts, c1, ts1, s, e1, fun H1 st1 => k H1 st1⟩
  · simp at e
/-- .. as values -/
theorem i_and (h : tE K F (.and_ a b) σ H Q) : tAndV (tE K F a) (tE K F b) σ H Q := by
  obtain ⟨ρ, W, T, ts, c, ts', s, e, k⟩ := h
  simp only [ev] at e
  split at e
  · rename_i ts1 e1
    refine ⟨ρ, W, T, ts, _, ts1, s, e1, fun v H1 A1 st1 re1 => ⟨true, re1.sl, iteT ?_⟩⟩
    unfold evB at e
    split at e
    · rename_i c2 ts2 e2
      simp only [Option.some.injEq, Prod.mk.injEq] at e
      obtain ⟨rfl, rfl⟩ := e
      exact ⟨ρ, W, T, ts1, _, ts2, s.step st1, e2, fun v2 H2 A2 st2 re2 => k v2 H2 A2 (st1.trans st2) (re2.from_ st1)⟩
    · simp at e
  · rename_i ts1 e1
    simp only [Option.some.injEq, Prod.mk.injEq] at e
    obtain ⟨rfl, rfl⟩ := e
    exact ⟨ρ, W, T, ts, _, ts1, s, e1, fun v H1 A1 st1 re1 => ⟨false, re1.sl, iteF (k _ H1 [] st1 (.p rfl))⟩⟩
  · simp at e
theorem i_or (h : tE K F (.or_ a b) σ H Q) : tOrV (tE K F a) (tE K F b) σ H Q := by
  obtain ⟨ρ, W, T, ts, c, ts', s, e, k⟩ := h
  simp only [ev] at e
  split at e
  · rename_i ts1 e1
    simp only [Option.some.injEq, Prod.mk.injEq] at e
    obtain ⟨rfl, rfl⟩ := e
    exact ⟨ρ, W, T, ts, _, ts1, s, e1, fun v H1 A1 st1 re1 => ⟨true, re1.sl, iteT (k _ H1 [] st1 (.p rfl))⟩⟩
  · rename_i ts1 e1
    refine ⟨ρ, W, T, ts, _, ts1, s, e1, fun v H1 A1 st1 re1 => ⟨false, re1.sl, iteF ?_⟩⟩
    unfold evB at e
    split at e
    · rename_i c2 ts2 e2
      simp only [Option.some.injEq, Prod.mk.injEq] at e
      obtain ⟨rfl, rfl⟩ := e
      exact ⟨ρ, W, T, ts1, _, ts2, s.step st1, e2, fun v2 H2 A2 st2 re2 => k v2 H2 A2 (st1.trans st2) (re2.from_ st1)⟩
    · simp at e
  · simp at e
theorem i_not (h : tE K F (.not_ a) σ H Q) : tNotV (tE K F a) σ H Q := by
  obtain ⟨ρ, W, T, ts, c, ts', s, e, k⟩ := h
  simp only [ev] at e
  split at e
  · rename_i c1 ts1 e1
    simp only [Option.some.injEq, Prod.mk.injEq] at e
    obtain ⟨rfl, rfl⟩ := e
    exact ⟨ρ, W, T, ts, _, ts1, s, e1, fun v H1 A1 st1 re1 => ⟨c1, re1.sl, k _ H1 [] st1 (.p rfl)⟩⟩
  · simp at e
theorem i_ite (h : tE K F (.ite c a b) σ H Q) : tIf (tT K F c) (tE K F a) (tE K F b) σ H Q := by
  obtain ⟨ρ, W, T, ts, r, ts', s, e, k⟩ := h
  simp only [ev] at e
  split at e
  · rename_i ts1 e1
    exact ⟨ρ, W, T, ts, true, ts1, s, e1, fun H1 st1 => iteT ⟨ρ, W, T, ts1, r, ts', s.step st1, e, fun v H2 A2 st2 re2 => k v H2 A2 (st1.trans st2) (re2.from_ st1)⟩⟩
  · rename_i ts1 e1
    exact ⟨ρ, W, T, ts, false, ts1, s, e1, fun H1 st1 => iteF ⟨ρ, W, T, ts1, r, ts', s.step st1, e, fun v H2 A2 st2 re2 => k v H2 A2 (st1.trans st2) (re2.from_ st1)⟩⟩
  · simp at e
/-- x or y by truth: a list or another -/
theorem i_orl (h : tE K F (.orl a b) σ H Q) : tOrT K (tE K F a) (tE K F b) σ H Q := by
  obtain ⟨ρ, W, T, ts, r, ts', s, e, k⟩ := h
  simp only [ev] at e
  split at e
  · rename_i x xs ts1 e1
    simp only [Option.some.injEq, Prod.mk.injEq] at e
    obtain ⟨rfl, rfl⟩ := e
    refine ⟨ρ, W, T, ts, _, ts1, s, e1, fun v H1 A1 st1 re1 => ⟨true, ?_, iteT (k v H1 A1 st1 re1)⟩⟩
    obtain ⟨p, vs, rfl, eA, g, l, q⟩ := re1.sl
    obtain ⟨w, r, ev, q1, q2⟩ := q
    subst ev
    exact .inl ⟨_, SqL.of g, rfl⟩
  · rename_i ts1 e1
    refine ⟨ρ, W, T, ts, _, ts1, s, e1, fun v H1 A1 st1 re1 => ⟨false, ?_, iteF ⟨ρ, W, T, ts1, r, ts', s.step st1, e, fun v2 H2 A2 st2 re2 => k v2 H2 A2 (st1.trans st2) (re2.from_ st1)⟩⟩⟩
    obtain ⟨p, vs, rfl, eA, g, l, q⟩ := re1.sl
    have ev : vs = [] := q
    subst ev
    exact .inl ⟨_, SqL.of g, rfl⟩
  · simp at e

/-! ### arguments, displays -/
theorem i_nl {Q : List V → Hp → Prop} (h : tL K F .nl σ H Q) : tNil σ H Q := by
  obtain ⟨ρ, W, T, ts, ds, ts', s, e, k⟩ := h
  simp only [evL, Option.some.injEq, Prod.mk.injEq] at e
  obtain ⟨rfl, rfl⟩ := e
  exact k [] H (.refl s.tin) rfl
theorem i_cn {Q : List V → Hp → Prop} (h : tL K F (.cn a b) σ H Q) : tCons (tE K F a) (tL K F b) σ H Q := by
  obtain ⟨ρ, W, T, ts, ds, ts', s, e, k⟩ := h
  simp only [evL] at e
  split at e
  · rename_i x ts1 e1
    split at e
    · rename_i es ts2 e2
      simp only [Option.some.injEq, Prod.mk.injEq] at e
      obtain ⟨rfl, rfl⟩ := e
      refine ⟨ρ, W, T, ts, x, ts1, s, e1, fun v H1 A1 st1 re1 => ⟨ρ, W, T, ts1, es, ts2, s.step st1, e2, fun vs H2 st2 rs2 => ?_⟩⟩
      exact k (v :: vs) H2 (st1.trans st2) ⟨v, vs, rfl, keepM st2 hTM (re1.fz s.live), rs2⟩
    · simp at e
  · simp at e
theorem i_cs {Q : List V → Hp → Prop} (h : tL K F (.cs a b) σ H Q) : StX.tStar K (tE K F a) (tL K F b) σ H Q := by
  obtain ⟨ρ, W, T, ts, ds, ts', s, e, k⟩ := h
  simp only [evL] at e
  split at e
  · rename_i x ts1 e1
    split at e
    · rename_i xs ex
      split at e
      · rename_i es ts2 e2
        simp only [Option.some.injEq, Prod.mk.injEq] at e
        obtain ⟨rfl, rfl⟩ := e
        refine ⟨ρ, W, T, ts, x, ts1, s, e1, fun v H1 A1 st1 re1 => ?_⟩
        have hv := re1.fz s.live
        have key : ∃ p vs, v = .ref p ∧ (SqT K H1 p vs ∨ SqL K H1 p vs) ∧ Rps K (Mof W T) T H1 xs vs := by
          cases hx : x.fz <;> rw [hx] at ex hv <;> simp only [seqD, reduceCtorEq, Option.some.injEq] at ex
          · subst ex
            obtain ⟨p, vs, e, g, m, l, q⟩ := hv
            exact ⟨p, vs, e, .inl (SqT.of g), q⟩
          · subst ex
            obtain ⟨p, vs, e, g, m, l, q⟩ := hv
            exact ⟨p, vs, e, .inr (SqL.of g), q⟩
        obtain ⟨p, vs, e3, e4, e5⟩ := key
        refine ⟨p, vs, e3, e4, ρ, W, T, ts1, es, ts2, s.step st1, e2, fun ws H2 st2 rs2 => ?_⟩
        exact k (vs ++ ws) H2 (st1.trans st2) ((keepMs st2 hTM e5).append rs2)
      · simp at e
    · simp at e
  · simp at e
theorem i_tup (h : tE K F (.tup a) σ H Q) : tTup (tL K F a) σ H Q := by
  obtain ⟨ρ, W, T, ts, r, ts', s, e, k⟩ := h
  simp only [ev] at e
  split at e
  · rename_i ds ts1 e1
    split at e
    · rename_i hl
      simp only [Option.some.injEq, Prod.mk.injEq] at e
      obtain ⟨rfl, rfl⟩ := e
      refine ⟨ρ, W, T, ts, ds, ts1, s, e1, fun vs H1 st1 rs => ?_⟩
      have l := rs.length
      exact ⟨le_line (by omega), fun p hp => k _ _ [] (st1.trans (.new st1.tin hp)) (.from_ (.tup (s.step st1).live hp (by omega) rs) st1)⟩
    · simp at e
  · simp at e
theorem i_lst (h : tE K F (.lst a) σ H Q) : tLst (tL K F a) σ H Q := by
  obtain ⟨ρ, W, T, ts, r, ts', s, e, k⟩ := h
  simp only [ev] at e
  split at e
  · rename_i ds ts1 e1
    split at e
    · rename_i hl
      simp only [Option.some.injEq, Prod.mk.injEq] at e
      obtain ⟨rfl, rfl⟩ := e
      refine ⟨ρ, W, T, ts, ds, ts1, s, e1, fun vs H1 st1 rs => ?_⟩
      have l := rs.length
      exact ⟨le_line (by omega), fun p hp => k _ _ [p] (st1.trans (.new st1.tin hp)) (.from_ (.lst st1.tin hp (by omega) rs) st1)⟩
    · simp at e
  · simp at e
end
end Lt

namespace Lt
open PySem PySem.Spec PyProof.Rows L2
section
variable {X : Cx}
/-- d[k] -/
def rIxD : R2 := fun x y H Q => ∃ a v, x = .ref a ∧ DGet H a y (some v) ∧ Q v H
theorem ix_dict (hu : X.A.units + 1 < cLine) : IxR X rIxD := by
  intro value slice pins s σ H x y v u Q I rx ry ⟨a, z, ex, g, q⟩ hs
  subst ex
  cases (show v = Value.ref a from rx)
  have hT := dict_typeIs I g
  have got : wpAny (model X.prog X.w) X.A (getItem (.ref a) u) (EP X pins σ Q) X.xe s := d_getItem hu I g ry fun w' s3 I3 rw' => ⟨z, H, I3, rw', q⟩
  unfold subscriptTail
  refine wpAny_bind ?_
  rw [getitemInPython_of_ne hT.not_modules]
  refine wpAny_bind (wpAny_specialOf hT PySem.F.slot_dict_getitem.lookup ?_)
  have rest : wpAny (model X.prog X.w) X.A (subscripted slice false (.ref a) u) (fun r s₃ => wpAny (model X.prog X.w) X.A (letTemporaryGo value (.ref a) r >>= fun _ => pure r) (EP X pins σ Q) X.xe s₃) X.xe s := by
    rw [hs]
    exact wpAny_operating (thn got fun r s₃ h₃ => wpAny_bind (wpAny_letTemporaryGo (wpAny_pure h₃)))
  exact wpAny_pure (wpAny_bind rest)
end
def rIxK (K : PySem.W.Frag) : R2 := fun x y H Q => rIxL K x y H Q ∨ (rIxT K x y H Q ∨ rIxD x y H Q)
theorem ix_all {X : Cx} (hu : X.A.units + 1 < cLine) : IxR X (rIxK X.K) := ix_list.or (ix_tup.or (ix_dict hu))
section
variable {K : PySem.W.Frag} {F : FT} {σ : L2.St} {H : Hp} {Q : VK} {a b c t : Tm}
theorem Rps.atI {M : Addr → Prop} {T : Option Addr} {H : Hp} {ds : List D} {vs : List V} {i : Int} {d : D} (r : Rps K M T H ds vs) (h : atI ds i = some d) : ∃ v, L2.atI vs i = some v ∧ Rp K M T H d v := by
  unfold L2.atI at h ⊢
  rw [r.length]
  cases e : ixN ds.length i with
  | none => rw [e] at h; simp at h
  | some j =>
    rw [e] at h
    exact r.get h
theorem valV_zip {M : Addr → Prop} {T : Option Addr} {H : Hp} {i : Int} : ∀ {ks : List Int} {ds : List D} {kvs : List (Key × V)} {d : D}, kvs.map (·.1) = ks.map Sum.inl → Rps K M T H ds (kvs.map (·.2)) →
    ((ks.zip ds).find? fun kv => decide (kv.1 = i)).map (·.2) = some d → ∃ v, valV kvs (.inl i) = some v ∧ Rp K M T H d v
  | [], _, _, _, _, _, h => by simp at h
  | _ :: _, [], _, _, _, _, h => by simp at h
  | k :: ks, d0 :: ds, [], _, e, _, _ => by simp at e
  | k :: ks, d0 :: ds, (kk, v0) :: kvs, d, e, r, h => by
    simp only [List.map_cons, List.cons.injEq] at e
    obtain ⟨e1, e2⟩ := e
    obtain ⟨v', rr, e3, q, t⟩ := r
    simp only [List.map_cons, List.cons.injEq] at e3
    obtain ⟨rfl, rfl⟩ := e3
    by_cases hk : k = i
    · subst hk
      simp at h
      subst h
      exact ⟨v0, by rw [e1]; exact valV_pos rfl, q⟩
    · have h2 : ((ks.zip ds).find? fun kv => decide (kv.1 = i)).map (·.2) = some d := by simpa [List.find?_cons, hk] using h
      obtain ⟨v, h3, h4⟩ := valV_zip e2 t h2
      exact ⟨v, by rw [valV_neg (by rw [e1]; intro z; exact hk (Sum.inl.inj z))]; exact h3, h4⟩
theorem i_idx (h : tE K F (.idx a b) σ H Q) : tOp (rIxK K) (tE K F a) (tE K F b) σ H Q := by
  obtain ⟨ρ, W, T, ts, r, ts', s, e, k⟩ := h
  simp only [ev] at e
  split at e
  · rename_i x ts1 e1
    split at e
    · rename_i y ts2 e2
      obtain ⟨d, e3, e4⟩ := Option.map_eq_some_iff.mp e
      simp only [Prod.mk.injEq] at e4
      obtain ⟨rfl, rfl⟩ := e4
      refine ⟨ρ, W, T, ts, x, ts1, s, e1, fun v H1 A1 st1 re1 => ⟨ρ, W, T, ts1, y, ts2, s.step st1, e2, fun w H2 A2 st2 re2 => ?_⟩⟩
      have hv : Rp K (Mof W T) T H2 x.fz v := keepM st2 hTM (re1.fz s.live)
      have hw : Rp K (Mof W T) T H2 y.fz w := re2.fz (s.step st1).live
      have fin : ∀ u, Rp K (Mof W T) T H2 d u → Q u H2 := fun u hu => k u H2 [] (st1.trans st2) (.p hu)
      cases hx : x.fz <;> rw [hx] at e3 hv <;> cases hy : y.fz <;> rw [hy] at e3 hw <;> simp only [idxD, reduceCtorEq] at e3
      case tup.int xs i =>
        obtain ⟨p, vs, rfl, g, m, l, q⟩ := hv
        obtain ⟨u, e5, e6⟩ := q.atI e3
        exact .inr (.inl ⟨p, vs, i, u, rfl, hw, SqT.of g, e5, fin u e6⟩)
      case lst.int xs i =>
        obtain ⟨p, vs, rfl, g, m, l, q⟩ := hv
        obtain ⟨u, e5, e6⟩ := q.atI e3
        exact .inl ⟨p, vs, i, u, rfl, hw, SqL.of g, e5, fin u e6⟩
      case dct.int ks ds i =>
        obtain ⟨p, kvs, rfl, g, m, l, hk, q⟩ := hv
        obtain ⟨u, e5, e6⟩ := valV_zip hk q e3
        cases (show w = .int i from hw)
        refine .inr (.inr ⟨p, u, rfl, ?_, fin u e6⟩)
        rw [← e5]
        exact DGet.k (k := Sum.inl i) g
      case tin.int i =>
        obtain ⟨p, eT, rfl⟩ := hv
        obtain ⟨z, e5, rfl⟩ := Option.map_eq_some_iff.mp e3
        have t2 := st2.tin
        rw [eT] at t2
        have q : Rps K (Mof W T) T H2 (ts2.map .int) (ts2.map .int) := Rps.ints ts2
        have e6 : L2.atI (ts2.map D.int) i = some (.int z) := by
          unfold L2.atI at e5 ⊢
          rw [List.length_map]
          cases e7 : ixN ts2.length i with
          | none => rw [e7] at e5; simp at e5
          | some j => rw [e7] at e5; simpa using e5
        obtain ⟨u, e7, e8⟩ := q.atI e6
        exact .inl ⟨p, _, i, u, rfl, hw, SqL.of t2.1, e7, fin u e8⟩
    · simp at e
  · simp at e

/-! ### slices -/
def rSlK (K : PySem.W.Frag) : V → Option Int → Option Int → Hp → VK → Prop := fun x lo hi H Q => rSlL K x lo hi H Q ∨ rSlA K x lo hi H Q
theorem sl_all {X : Cx} : L2.SlR X (rSlK X.K) := L2.SlR.or sl_list sl_tupA
theorem i_nlO {Q : Option Int → Hp → Prop} (h : tO K F .nl σ H Q) : tNoPart σ H Q := by
  obtain ⟨ρ, W, T, ts, o, ts', s, e, k⟩ := h
  simp only [evO, Option.some.injEq, Prod.mk.injEq] at e
  obtain ⟨rfl, rfl⟩ := e
  exact k H (.refl s.tin)
theorem i_smO {Q : Option Int → Hp → Prop} (h : tO K F (.sm a) σ H Q) : tPart (tE K F a) σ H Q := by
  obtain ⟨ρ, W, T, ts, o, ts', s, e, k⟩ := h
  simp only [evO] at e
  split at e
  · rename_i i ts1 e1
    simp only [Option.some.injEq, Prod.mk.injEq] at e
    obtain ⟨rfl, rfl⟩ := e
    exact ⟨ρ, W, T, ts, _, ts1, s, e1, fun v H1 A1 st1 re1 => ⟨i, re1.sl, k H1 st1⟩⟩
  · simp at e
theorem Rps.cut {M : Addr → Prop} {T : Option Addr} {H : Hp} {ds : List D} {vs : List V} {lo hi : Option Int} (r : Rps K M T H ds vs) : Rps K M T H (cutL ds lo hi) (cutV vs lo hi) := by
  unfold cutL cutV
  rw [r.length]
  exact (r.drop _).take _
theorem cutL_all {α : Type} (xs : List α) {lo hi : Option Int} (h : HT.sIx xs.length 0 lo = 0 ∧ HT.sIx xs.length xs.length hi = xs.length) : cutL xs lo hi = xs := by
  unfold cutL
  rw [h.1, h.2]
  simp
theorem cutL_map {α β : Type} (f : α → β) (xs : List α) (lo hi : Option Int) : cutL (xs.map f) lo hi = (cutL xs lo hi).map f := by
  unfold cutL
  simp
theorem i_slc {lo hi : Tm} (h : tE K F (.slc a lo hi) σ H Q) : tSl (rSlK K) (tE K F a) (tO K F lo) (tO K F hi) σ H Q := by
  obtain ⟨ρ, W, T, ts, r, ts', s, e, k⟩ := h
  simp only [ev] at e
  split at e
  · rename_i x ts1 e1
    split at e
    · rename_i l ts2 e2
      split at e
      · rename_i u ts3 e3
        obtain ⟨z, e4, e5⟩ := Option.map_eq_some_iff.mp e
        simp only [Prod.mk.injEq] at e5
        obtain ⟨rfl, rfl⟩ := e5
        refine ⟨ρ, W, T, ts, x, ts1, s, e1, fun v H1 A1 st1 re1 => ⟨ρ, W, T, ts1, l, ts2, s.step st1, e2, fun H2 st2 => ⟨ρ, W, T, ts2, u, ts3, (s.step st1).step st2, e3, fun H3 st3 => ?_⟩⟩⟩
        have hv : Rp K (Mof W T) T H3 x.fz v := keepM st3 hTM (keepM st2 hTM (re1.fz s.live))
        have s3 := ((s.step st1).step st2).step st3
        have st := (st1.trans st2).trans st3
        cases hx : x.fz <;> rw [hx] at e4 hv <;> simp only [slcD, reduceCtorEq, Option.some.injEq] at e4
        case tup xs =>
          subst e4
          obtain ⟨p, vs, rfl, g, m, ll, q⟩ := hv
          refine .inr ⟨p, vs, rfl, SqT.of g, fun hw => ?_, fun _ q' hq' => ?_⟩
          · rw [q.length] at hw
            rw [cutL_all xs hw] at k
            exact k _ H3 [] st (.p ⟨p, vs, rfl, g, m, ll, q⟩)
          · exact k _ _ [] (st.trans (.new st.tin hq')) (.from_ (.tup s3.live hq' (Nat.le_trans (cutV_length _ _ _) ll) q.cut) st)
        case lst xs =>
          subst e4
          obtain ⟨p, vs, rfl, g, m, ll, q⟩ := hv
          exact .inl ⟨p, vs, rfl, SqL.of g, fun q' hq' => k _ _ [q'] (st.trans (.new st.tin hq')) (.from_ (.lst st.tin hq' (Nat.le_trans (cutV_length _ _ _) ll) q.cut) st)⟩
        case scr ns =>
          subst e4
          obtain ⟨p, rfl, g, nl⟩ := hv
          have sq : SqL K H3 p (ns.map V.int) := by
            rcases g with g | g
            · exact .inl g.1
            · rcases g with g | g
              · rcases g with g | ⟨o, g⟩ <;> simp at g
              · exact .inr g
          refine .inl ⟨p, _, rfl, sq, fun q' hq' => k _ _ [q'] (st.trans (.new st.tin hq')) (.from_ (.lst st.tin hq' (Nat.le_trans (cutV_length _ _ _) (by simpa using nl)) ?_) st)⟩
          have q2 : Rps K (Mof W T) T H3 (ns.map .int) (ns.map .int) := Rps.ints ns
          have q3 := q2.cut (lo := l) (hi := u)
          rw [cutL_map] at q3
          exact q3
      · simp at e
    · simp at e
  · simp at e
end
end Lt

namespace Lt
open PySem PySem.Spec PyProof.Rows L2

/-! ### built-ins -/
def biR (K : PySem.W.Frag) : Bi → List V → Hp → VK → Prop
  | .len => fun xs H Q => (∃ p ys, xs = [.ref p] ∧ (SqL K H p ys ∨ SqT K H p ys) ∧ Q (.int ys.length) H) ∨ ((∃ a kvs, xs = [V.ref a] ∧ H a = some (.dK kvs) ∧ Q (.int kvs.length) H) ∨ (∃ z, xs = [.str z] ∧ z.length ≤ sizeLine ∧ Q (.int z.length) H))
  | .all_ => rAll K
  | .any_ => rAny K
  | .tuple => fun xs H Q => ∃ p ys, xs = [.ref p] ∧ ((SqL K H p ys ∧ ∀ l, H l = none → Q (.ref l) (upd H l (.tup ys))) ∨ (SqT K H p ys ∧ Q (.ref p) H))
  | .list => fun xs H Q => ∃ p ys, xs = [.ref p] ∧ (SqL K H p ys ∨ SqT K H p ys) ∧ ∀ l, H l = none → Q (.ref l) (upd H l (.lst ys))
  | .abs => fun xs H Q => ∃ i, xs = [.int i] ∧ Q (.int (if i < 0 then -i else i)) H
  | .int => fun xs H Q => (∃ i, xs = [.int i] ∧ Q (.int i) H) ∨ ∃ k, xs = [.bl k] ∧ Q (.int (if k then 1 else 0)) H
  | .max2 => fun xs H Q => ∃ i j, xs = [.int i, .int j] ∧ Q (.int (if j > i then j else i)) H
  | .min2 => fun xs H Q => ∃ i j, xs = [.int i, .int j] ∧ Q (.int (if j < i then j else i)) H
  | .maxl => rMax K
  | .sorted => rSorted K
def biV : Bi → Value
  | .len => .builtin "len"
  | .all_ => .builtin "all"
  | .any_ => .builtin "any"
  | .tuple => .type "tuple"
  | .list => .type "list"
  | .abs => .builtin "abs"
  | .int => .type "int"
  | .max2 => .builtin "max"
  | .min2 => .builtin "min"
  | .maxl => .builtin "max"
  | .sorted => .builtin "sorted"
theorem r_bi {X : Cx} (hc : X.calm = true) : ∀ b : Bi, CallR X (biV b) (biR X.K b)
  | .len => call_len_seq.or (call_lenD.or call_len_str)
  | .all_ => cr_all hc
  | .any_ => cr_any hc
  | .tuple => call_tuple_of
  | .list => call_list_of
  | .abs => call_abs
  | .int => call_int1
  | .max2 => call_max2 hc
  | .min2 => call_min2 hc
  | .maxl => cr_max hc
  | .sorted => cr_sorted
section
variable {K : PySem.W.Frag} {F : FT} {σ : L2.St} {H : Hp} {Q : VK} {a b c t : Tm}
def OpN (K : PySem.W.Frag) (f : List D → Option R) (r : List V → Hp → VK → Prop) : Prop := ∀ (M : Addr → Prop) (T : Option Addr) (ts : Tin) (H : Hp) (xs : List D) (z : R) (vs : List V) (Q : VK), TinAt T H ts → (∀ a, T = some a → M a) → (∀ a, M a → H a ≠ none) → f xs = some z → Rps K M T H xs vs →
  (∀ u H' A, Step T H H' ts → RE K M T H H' u z A → Q u H') → r vs H Q
theorem rps1 {M : Addr → Prop} {T : Option Addr} {d : D} {vs : List V} (r : Rps K M T H [d] vs) : ∃ v, vs = [v] ∧ Rp K M T H d v := by
  obtain ⟨v, r', e, q, t⟩ := r
  have t' : r' = [] := t
  subst t'
  exact ⟨v, e, q⟩
theorem rps2 {M : Addr → Prop} {T : Option Addr} {d d' : D} {vs : List V} (r : Rps K M T H [d, d'] vs) : ∃ v w, vs = [v, w] ∧ Rp K M T H d v ∧ Rp K M T H d' w := by
  obtain ⟨v, r', e, q, t⟩ := r
  obtain ⟨w, e', q'⟩ := rps1 t
  subst e'
  exact ⟨v, w, e, q, q'⟩
theorem maxI_mem : ∀ (r : List Int) (m : Int), maxI m r ∈ m :: r ∧ ∀ y ∈ m :: r, y ≤ maxI m r
  | [], m => ⟨by simp [maxI], fun y hy => (by have e : y = m := (by simpa using hy); rw [e]; exact Int.le_refl _)⟩
  | i :: r, m => by
    obtain ⟨h1, h2⟩ := maxI_mem r (if m < i then i else m)
    simp only [maxI]
    refine ⟨?_, fun y hy => ?_⟩
    · rcases List.mem_cons.mp h1 with e | e
      · rw [e]
        split <;> simp
      · simp [e]
    · have h3 := h2 (if m < i then i else m) (by simp)
      rcases List.mem_cons.mp hy with e | e
      · subst e
        refine Int.le_trans ?_ h3
        split <;> omega
      · rcases List.mem_cons.mp e with e | e
        · subst e
          refine Int.le_trans ?_ h3
          split <;> omega
        · exact h2 y (List.mem_cons_of_mem _ e)
theorem insI_perm (i : Int) : ∀ l : List Int, (insI i l).Perm (i :: l)
  | [] => .refl _
  | j :: r => by
    simp only [insI]
    split
    · exact .refl _
    · exact ((insI_perm i r).cons j).trans (.swap i j r)
theorem sortI_perm : ∀ l : List Int, (sortI l).Perm l
  | [] => .refl _
  | i :: r => (insI_perm i _).trans ((sortI_perm r).cons i)
theorem insI_sorted (i : Int) : ∀ l : List Int, l.Pairwise (· ≤ ·) → (insI i l).Pairwise (· ≤ ·)
  | [], _ => by simp [insI]
  | j :: r, h => by
    have hp := List.pairwise_cons.mp h
    simp only [insI]
    split
    · rename_i hij
      refine List.pairwise_cons.mpr ⟨fun y hy => ?_, h⟩
      rcases List.mem_cons.mp hy with e | e
      · subst e; exact hij
      · exact Int.le_trans hij (hp.1 y e)
    · rename_i hij
      refine List.pairwise_cons.mpr ⟨fun y hy => ?_, insI_sorted i r hp.2⟩
      have hy2 := (insI_perm i r).mem_iff.mp hy
      rcases List.mem_cons.mp hy2 with e | e
      · subst e; omega
      · exact hp.1 y e
theorem sortI_sorted : ∀ l : List Int, (sortI l).Pairwise (· ≤ ·)
  | [] => .nil
  | i :: r => insI_sorted i _ (sortI_sorted r)
theorem sorted_one : ∀ {l m : List Int}, l.Perm m → l.Pairwise (· ≤ ·) → m.Pairwise (· ≤ ·) → l = m
  | [], m, p, _, _ => (List.nil_perm.mp p).symm
  | x :: r, [], p, _, _ => absurd p.length_eq (by simp)
  | x :: r, y :: s, p, h1, h2 => by
    have a1 := List.pairwise_cons.mp h1
    have a2 := List.pairwise_cons.mp h2
    have hx : x ∈ y :: s := p.mem_iff.mp (by simp)
    have hy : y ∈ x :: r := p.mem_iff.mpr (by simp)
    have e : x = y := by
      rcases List.mem_cons.mp hx with e | e
      · exact e
      · rcases List.mem_cons.mp hy with e' | e'
        · exact e'.symm
        · have := a2.1 x e
          have := a1.1 y e'
          omega
    subst e
    rw [sorted_one (List.Perm.cons_inv p) a1.2 a2.2]
theorem o_bi : ∀ b : Bi, OpN K (biD b) (biR K b) := by
  intro b M T ts H xs z vs Q t hT hM e hx k
  cases b
  case len =>
    have e : lenD xs = some z := e
    unfold lenD at e
    split at e <;> try (simp at e; done)
    all_goals obtain ⟨v, rfl, q⟩ := rps1 hx
    · simp only [Option.some.injEq] at e
      subst e
      obtain ⟨p, ws, rfl, g, m, l, r⟩ := q
      refine .inl ⟨p, ws, rfl, .inl (SqL.of g), ?_⟩
      rw [r.length]
      exact give t k rfl
    · simp only [Option.some.injEq] at e
      subst e
      obtain ⟨p, ws, rfl, g, m, l, r⟩ := q
      refine .inl ⟨p, ws, rfl, .inr (SqT.of g), ?_⟩
      rw [r.length]
      exact give t k rfl
    · simp only [Option.some.injEq] at e
      subst e
      obtain ⟨p, kvs, rfl, g, m, l, r, _⟩ := q
      refine .inr (.inl ⟨p, kvs, rfl, g, ?_⟩)
      have el := congrArg List.length r
      simp only [List.length_map] at el
      rw [el]
      exact give t k rfl
    · split at e
      · simp only [Option.some.injEq] at e
        subst e
        cases (show v = .str _ from q)
        exact .inr (.inr ⟨_, rfl, le_line (by assumption), give t k rfl⟩)
      · simp at e
  case all_ =>
    have e : allD xs = some z := e
    unfold allD at e
    split at e <;> try (simp at e; done)
    obtain ⟨v, rfl, q⟩ := rps1 hx
    split at e
    · rename_i bs eb
      simp only [Option.some.injEq] at e
      subst e
      have e2 := asBls_eq eb
      subst e2
      obtain ⟨p, ws, rfl, g, m, l, r⟩ := q
      have e3 := r.bl_eq
      subst e3
      exact ⟨p, bs, rfl, SqL.of g, give t k rfl⟩
    · simp at e
  case any_ =>
    have e : anyD xs = some z := e
    unfold anyD at e
    split at e <;> try (simp at e; done)
    obtain ⟨v, rfl, q⟩ := rps1 hx
    split at e
    · rename_i bs eb
      simp only [Option.some.injEq] at e
      subst e
      have e2 := asBls_eq eb
      subst e2
      obtain ⟨p, ws, rfl, g, m, l, r⟩ := q
      have e3 := r.bl_eq
      subst e3
      exact ⟨p, bs, rfl, SqL.of g, give t k rfl⟩
    · simp at e
  case tuple =>
    have e : tupD xs = some z := e
    unfold tupD at e
    split at e <;> try (simp at e; done)
    all_goals obtain ⟨v, rfl, q⟩ := rps1 hx
    · simp only [Option.some.injEq] at e
      subst e
      obtain ⟨p, ws, rfl, g, m, l, r⟩ := q
      exact ⟨p, ws, rfl, .inl ⟨SqL.of g, fun n hn => k _ _ [] (.new t hn) (.tup hM hn l r)⟩⟩
    · simp only [Option.some.injEq] at e
      subst e
      obtain ⟨p, ws, rfl, g, m, l, r⟩ := q
      exact ⟨p, ws, rfl, .inr ⟨SqT.of g, give t k ⟨p, ws, rfl, g, m, l, r⟩⟩⟩
  case list =>
    have e : lstD xs = some z := e
    unfold lstD at e
    split at e <;> try (simp at e; done)
    all_goals obtain ⟨v, rfl, q⟩ := rps1 hx
    · simp only [Option.some.injEq] at e
      subst e
      obtain ⟨p, ws, rfl, g, m, l, r⟩ := q
      exact ⟨p, ws, rfl, .inl (SqL.of g), fun n hn => k _ _ [n] (.new t hn) (.lst t hn l r)⟩
    · simp only [Option.some.injEq] at e
      subst e
      obtain ⟨p, ws, rfl, g, m, l, r⟩ := q
      exact ⟨p, ws, rfl, .inr (SqT.of g), fun n hn => k _ _ [n] (.new t hn) (.lst t hn l r)⟩
  case abs =>
    have e : absD xs = some z := e
    unfold absD at e
    split at e <;> try (simp at e; done)
    obtain ⟨v, rfl, q⟩ := rps1 hx
    simp only [Option.some.injEq] at e
    subst e
    cases (show v = .int _ from q)
    exact ⟨_, rfl, give t k rfl⟩
  case int =>
    have e : intD xs = some z := e
    unfold intD at e
    split at e <;> try (simp at e; done)
    all_goals obtain ⟨v, rfl, q⟩ := rps1 hx
    · simp only [Option.some.injEq] at e
      subst e
      cases (show v = .int _ from q)
      exact .inl ⟨_, rfl, give t k rfl⟩
    · simp only [Option.some.injEq] at e
      subst e
      cases (show v = .bl _ from q)
      exact .inr ⟨_, rfl, give t k rfl⟩
  case max2 =>
    have e : max2D xs = some z := e
    unfold max2D at e
    split at e <;> try (simp at e; done)
    obtain ⟨v, w, rfl, q, q2⟩ := rps2 hx
    simp only [Option.some.injEq] at e
    subst e
    cases (show v = .int _ from q)
    cases (show w = .int _ from q2)
    exact ⟨_, _, rfl, give t k rfl⟩
  case min2 =>
    have e : min2D xs = some z := e
    unfold min2D at e
    split at e <;> try (simp at e; done)
    obtain ⟨v, w, rfl, q, q2⟩ := rps2 hx
    simp only [Option.some.injEq] at e
    subst e
    cases (show v = .int _ from q)
    cases (show w = .int _ from q2)
    exact ⟨_, _, rfl, give t k rfl⟩
  case maxl =>
    have e : maxlD xs = some z := e
    unfold maxlD at e
    split at e <;> try (simp at e; done)
    obtain ⟨v, rfl, q⟩ := rps1 hx
    split at e
    · rename_i i is eb
      simp only [Option.some.injEq] at e
      subst e
      have e2 := asInts_eq eb
      subst e2
      obtain ⟨p, ws, rfl, g, m, l, r⟩ := q
      have e3 := r.int_eq
      subst e3
      refine ⟨p, i :: is, rfl, SqL.of g, by simp, fun m hm hle => ?_⟩
      obtain ⟨h1, h2⟩ := maxI_mem is i
      have e4 : m = maxI i is := Int.le_antisymm (h2 m hm) (hle _ h1)
      rw [e4]
      exact give t k rfl
    · simp at e
  case sorted =>
    have e : srtD xs = some z := e
    unfold srtD at e
    split at e <;> try (simp at e; done)
    obtain ⟨v, rfl, q⟩ := rps1 hx
    split at e
    · rename_i is eb
      split at e
      · rename_i hl
        simp only [Option.some.injEq] at e
        subst e
        have e2 := asInts_eq eb
        subst e2
        obtain ⟨p, ws, rfl, g, m, l, r⟩ := q
        have e3 := r.int_eq
        subst e3
        refine ⟨p, is, rfl, SqL.of g, hl, fun ns' n hp hs hn => ?_⟩
        have e4 : ns' = sortI is := sorted_one (hp.trans (sortI_perm is).symm) hs (sortI_sorted is)
        subst e4
        exact k _ _ [n] (.new t hn) (.lst t hn (by rw [List.length_map, (sortI_perm is).length_eq]; exact Nat.le_trans (Nat.le_of_lt hl) (by decide)) (Rps.ints _))
      · simp at e
    · simp at e
theorem i_bi {o : Bi} (h : tE K F (.bi o a) σ H Q) : tCB (biR K o) (tL K F a) σ H Q := by
  obtain ⟨ρ, W, T, ts, r, ts', s, e, k⟩ := h
  simp only [ev] at e
  split at e
  · rename_i ds ts1 e1
    obtain ⟨z, e2, e3⟩ := Option.map_eq_some_iff.mp e
    simp only [Prod.mk.injEq] at e3
    obtain ⟨rfl, rfl⟩ := e3
    refine ⟨ρ, W, T, ts, ds, ts1, s, e1, fun vs H1 st1 rs => ?_⟩
    exact o_bi o (Mof W T) T ts1 H1 ds z vs Q st1.tin hTM (s.step st1).live e2 rs fun u H' A st re => k u H' A (st1.trans st) (re.from_ st1)
  · simp at e

/-! ### isinstance -/
def tyN : Ty → String
  | .int => "int"
  | .bool => "bool"
  | .tuple => "tuple"
  | .str => "str"
  | .list => "list"
def vtN : D → String
  | .non => "NoneType"
  | .bl _ => "bool"
  | .int _ => "int"
  | .str _ => "str"
  | .tup _ => "tuple"
  | .lst _ => "list"
  | .dct _ _ => "dict"
  | .tin => "list"
  | .scr _ => "list"
theorem kit_is {d : D} {y : Ty} {r : Bool} (h : isT y d = some r) : kitB (vtN d) (tyN y) = some r := by
  cases d <;> cases y <;> simp only [isT, reduceCtorEq, Option.some.injEq] at h <;> subst h <;> simp only [vtN, tyN] <;> decide +kernel
theorem ty_is {M : Addr → Prop} {T : Option Addr} {d : D} {v : V} {y : Ty} {r : Bool} (h : isT y d = some r) (q : Rp K M T H d v) : TyX K H v (.type (vtN d)) := by
  cases d
  case non => cases (show v = .non from q); exact .base .non
  case bl b => cases (show v = .bl b from q); exact .base (.bl b)
  case int i => cases (show v = .int i from q); exact .base (.int i)
  case str i => cases (show v = .str i from q); exact .base (.str i)
  case tup xs => obtain ⟨a, vs, rfl, g, _⟩ := q; exact .base (.tup g)
  case lst xs => obtain ⟨a, vs, rfl, g, _⟩ := q; exact .base (.lst g)
  case dct xs ys => obtain ⟨a, vs, rfl, g, _⟩ := q; exact .base (.dK g)
  case tin => cases y <;> simp [isT] at h
  case scr => cases y <;> simp [isT] at h
def tTy (y : Ty) : TE := tC (.ty (tyN y))
theorem i_isi1 {y : Ty} (h : tE K F (.isi [y] a) σ H Q) : tCB (rIsi K) (tCons (tE K F a) (tCons (tTy y) tNil)) σ H Q := by
  have h2 := i_op1 (a := a) (f := fun d => (isTs [y] d).map fun c => .p (.bl c)) (r := fun v H Q => rIsi K [v, .ty (tyN y)] H Q) (fun ρ ts => by simp only [ev]) ?_ h
  · exact h2
  · intro M T ts H x z v Q t hT hM e hx k
    obtain ⟨c, e1, rfl⟩ := Option.map_eq_some_iff.mp e
    have e2 : isT y x = some c := by
      simp only [isTs] at e1
      split at e1
      · rename_i h1; rw [h1]; exact e1
      · rename_i h1; rw [h1]; exact e1
      · simp at e1
    exact ⟨v, .ty (tyN y), .type (vtN x), .type (tyN y), c, rfl, .ty _, ty_is e2 hx, kit_ty (kit_is e2), give t k rfl⟩
theorem i_isi2 {y z : Ty} (h : tE K F (.isi [y, z] a) σ H Q) : tCB (rIsiT K) (tCons (tE K F a) (tCons (tTup (tCons (tTy y) (tCons (tTy z) tNil))) tNil)) σ H Q := by
  have h2 := i_op1 (a := a) (f := fun d => (isTs [y, z] d).map fun c => .p (.bl c)) (r := fun v H Q => ∀ p, H p = none → rIsiT K [v, .ref p] (upd H p (.tup [.ty (tyN y), .ty (tyN z)])) Q) (fun ρ ts => by simp only [ev]) ?_ h
  · obtain ⟨ρ, W, T, ts, r, ts', s, e, k⟩ := h2
    exact ⟨ρ, W, T, ts, r, ts', s, e, fun v H' A st re => ⟨by show 2 ≤ sizeLine; exact le_line (by decide), fun p hp => k v H' A st re p hp⟩⟩
  · intro M T ts H x w v Q t hT hM e hx k p hp
    obtain ⟨c, e1, rfl⟩ := Option.map_eq_some_iff.mp e
    have hx' : Rp K M T (upd H p (.tup [.ty (tyN y), .ty (tyN z)])) x v := Rp.imp (fun a o g n => ⟨by rw [upd_ne (ne_of_none g hp)]; exact g, n⟩) hx
    have fin : Q (.bl c) (upd H p (.tup [.ty (tyN y), .ty (tyN z)])) := k _ _ [] (.new t hp) (.p rfl)
    simp only [isTs] at e1
    split at e1
    · rename_i h1
      simp only [Option.some.injEq] at e1
      subst e1
      refine ⟨v, p, _, .type (vtN x), [.type (tyN y), .type (tyN z)], true, rfl, upd_same, .cons (.ty _) (.cons (.ty _) .nil), ty_is h1 hx', ?_, fin⟩
      exact kitAny_cons (kit_ty (kit_is h1)) (fun z => by cases z) fun _ => rfl
    · rename_i h1
      split at e1
      · rename_i h2
        simp only [Option.some.injEq] at e1
        subst e1
        refine ⟨v, p, _, .type (vtN x), [.type (tyN y), .type (tyN z)], true, rfl, upd_same, .cons (.ty _) (.cons (.ty _) .nil), ty_is h1 hx', ?_, fin⟩
        exact kitAny_cons (kit_ty (kit_is h1)) (fun _ => kitAny_cons (kit_ty (kit_is h2)) (fun z => by cases z) fun _ => rfl) (fun z => by cases z)
      · rename_i h2
        simp only [Option.some.injEq] at e1
        subst e1
        refine ⟨v, p, _, .type (vtN x), [.type (tyN y), .type (tyN z)], false, rfl, upd_same, .cons (.ty _) (.cons (.ty _) .nil), ty_is h1 hx', ?_, fin⟩
        exact kitAny_cons (kit_ty (kit_is h1)) (fun _ => kitAny_cons (kit_ty (kit_is h2)) (fun _ => kitAny_nil) (fun z => by cases z)) (fun z => by cases z)
      · simp at e1
    · simp at e1

/-! ### l.index(x) -/
theorem findD_at {d : D} : ∀ {xs : List D} {n m : Nat}, findD d xs n = some m → ∃ j x, m = n + j ∧ xs[j]? = some x ∧ deq x d = true ∧ ∀ i y, i < j → xs[i]? = some y → deq y d = false
  | [], _, _, h => by simp [findD] at h
  | x :: r, n, m, h => by
    simp only [findD] at h
    split at h
    · rename_i hx
      simp only [Option.some.injEq] at h
      exact ⟨0, x, by omega, rfl, hx, fun i y hi => by omega⟩
    · rename_i hx
      obtain ⟨j, y, h1, h2, h3, h4⟩ := findD_at h
      refine ⟨j + 1, y, by omega, by simpa using h2, h3, fun i z hi hz => ?_⟩
      cases i with
      | zero =>
        simp at hz
        subst hz
        simpa using hx
      | succ i => exact h4 i z (by omega) (by simpa using hz)
theorem pds_get {xs : List D} : ∀ {j : Nat}, (D.pds xs)[j]? = xs[j]?.map D.pd := by
  induction xs with
  | nil => intro j; simp [D.pds]
  | cons x r ih =>
    intro j
    cases j with
    | zero => simp [D.pds]
    | succ j => simp [D.pds, ih]
theorem i_mix (h : tE K F (.mix a b) σ H Q) : tBM K "list" (rIndexD K) (tE K F a) (tCons (tE K F b) tNil) σ H Q := by
  obtain ⟨ρ, W, T, ts, z, ts', s, e, k⟩ := h
  simp only [ev, ev2] at e
  split at e
  · rename_i x ts1 e1
    split at e
    · rename_i y ts2 e2
      obtain ⟨z', e3, e4⟩ := Option.map_eq_some_iff.mp e
      simp only [Prod.mk.injEq] at e4
      obtain ⟨rfl, rfl⟩ := e4
      refine ⟨ρ, W, T, ts, x, ts1, s, e1, fun v H1 A1 st1 re1 => ?_⟩
      have hv := re1.fz s.live
      cases hx : x.fz <;> rw [hx] at e3 hv <;> simp only [mixD, reduceCtorEq] at e3
      case lst xs =>
      obtain ⟨p, vs, rfl, g, m, l, r⟩ := hv
      refine ⟨.inl ⟨rfl, vs, SqL.of g⟩, ρ, W, T, ts1, y, ts2, s.step st1, e2, fun w H2 A2 st2 re2 => ?_⟩
      have hw : Rp K (Mof W T) T H2 y.fz w := re2.fz (s.step st1).live
      have hl : Rp K (Mof W T) T H2 (.lst xs) (.ref p) := keepM st2 hTM ⟨p, vs, rfl, g, m, l, r⟩
      split at e3
      · rename_i hok
        have ho := Bool.and_eq_true_iff.mp hok
        obtain ⟨n, e5, rfl⟩ := Option.map_eq_some_iff.mp e3
        obtain ⟨j, z, rfl, h2, h3, h4⟩ := findD_at e5
        refine ⟨p, w, y.fz.pd, D.pds xs, j, z.pd, rfl, rfl, by simpa [D.pd] using hl.dp (ok_lay ho.2), hw.dp (ok_lay ho.1), by simpa [D.ok, D.pd] using ho.2, ho.1, by rw [pds_get, h2]; rfl, h3, fun i z' hi hz => ?_, ?_⟩
        · rw [pds_get] at hz
          obtain ⟨u, hu, rfl⟩ := Option.map_eq_some_iff.mp hz
          exact h4 i u hi hu
        · have e6 : (0 + j : Nat) = j := by omega
          rw [e6] at k
          exact k _ H2 [] (st1.trans st2) (.p rfl)
      · simp at e3
    · simp at e
  · simp at e
end
end Lt

namespace Lt
open PySem PySem.Spec PyProof.Rows L2

/-! ### calls -/
abbrev M0 (T : Option Addr) : Addr → Prop := fun a => T = some a
/-- a def's promise: what S does on deep values -/
def spOf (K : PySem.W.Frag) (m : Nat) (S : List D → Tin → Option (R × Tin)) : Sp := fun vs H Q _ => vs.length = m ∧ ∃ T ts ds r ts', TinAt T H ts ∧ Rps K (M0 T) T H ds vs ∧ S ds ts = some (r, ts') ∧ r.clean = true ∧
  ∀ v H' A, Step T H H' ts' → RE K (M0 T) T H H' v r A → Q v H'
section
variable {K : PySem.W.Frag} {F : FT} {σ : L2.St} {H : Hp} {Q : VK} {a b c t : Tm}
theorem SlR.nl {M M' : Addr → Prop} {T T' : Option Addr} {H : Hp} {v : V} {r : R} {A : List Addr} (s : SlR K M T H r v A) (hc : r.clean = true) (hn : ∀ a vs, H a = some (.tup vs) → ¬ M' a) : SlR K M' T' H r v A := by
  cases r with
  | p d => exact Rp.nl hn hc s
  | o1 xs =>
    obtain ⟨a, vs, e1, e2, g, l, q⟩ := s
    exact ⟨a, vs, e1, e2, g, l, Rps.nl hn hc q⟩
  | o2 xss =>
    obtain ⟨a, as, e1, e2, g, l, q⟩ := s
    refine ⟨a, as, e1, e2, g, l, ?_⟩
    have hc2 : ∀ xs ∈ xss, D.nls xs = true := by simpa [R.clean, List.all_eq_true] using hc
    clear e1 e2 g l hc
    induction q with
    | nil => exact .nil
    | cons p q ih =>
      obtain ⟨vs, g, l, q'⟩ := p
      exact .cons ⟨vs, g, l, Rps.nl hn (hc2 _ (by simp)) q'⟩ (ih fun xs hx => hc2 xs (by simp [hx]))
theorem RE.up {M M' : Addr → Prop} {T : Option Addr} {H H' : Hp} {v : V} {r : R} {A : List Addr} (e : RE K M T H H' v r A) (hc : r.clean = true) (hM : ∀ a, M' a → ∃ vs, H' a = some (.lst vs)) : RE K M' T H H' v r A :=
  ⟨e.fr, e.nd, e.sl.nl hc fun a vs g z => by
    rcases z with z | z
    · obtain ⟨ws, g'⟩ := hM a z
      rw [g] at g'; cases g'
    · obtain ⟨_, _, ws, g'⟩ := e.fr a z
      rw [g] at g'; cases g'⟩
theorem lists_step {W : List (List Addr)} {ρ : Env} {T : Option Addr} {ts ts1 : Tin} {H H1 : Hp} (s : SR K ρ W T σ H ts) (st : Step T H H1 ts1) : ∀ a, Mof W T a → ∃ vs, H1 a = some (.lst vs) := (s.step st).lists
theorem i_brw (h : tE K F (.brw a) σ H Q) : tE K F a σ H Q := by
  obtain ⟨ρ, W, T, ts, r, ts', s, e, k⟩ := h
  simp only [ev] at e
  split at e
  · rename_i r1 ts1 e1
    split at e
    · rename_i hc
      simp only [Option.some.injEq, Prod.mk.injEq] at e
      obtain ⟨rfl, rfl⟩ := e
      exact ⟨frozen ρ, _, T, ts, r1, ts1, s.frozen, e1, fun v H' A st re => k v H' A st (re.up hc (lists_step s st))⟩
    · simp at e
  · simp at e
theorem i_fn {f m : Nat} (hm : ∀ ds ts q, F f ds ts = some q → ds.length = m) (h : tE K F (.fn f a) σ H Q) : tCall (spOf K m (F f)) [] E0 (tL K F a) σ H Q := by
  obtain ⟨ρ, W, T, ts, r, ts', s, e, k⟩ := h
  simp only [ev] at e
  split at e
  · rename_i ds ts1 e1
    split at e
    · rename_i r1 ts2 e2
      split at e
      · rename_i hc
        simp only [Option.some.injEq, Prod.mk.injEq] at e
        obtain ⟨rfl, rfl⟩ := e
        refine ⟨ρ, W, T, ts, ds, ts1, s, e1, fun vs H1 st1 rs => ?_⟩
        have s1 := s.step st1
        show spOf K m (F f) (vs ++ []) H1 Q E0
        rw [List.append_nil]
        refine ⟨by rw [rs.length]; exact hm _ _ _ e2, T, ts1, ds, r1, ts2, st1.tin, Rps.imp (fun a o g n => ⟨g, fun z => n (.inl z)⟩) rs, e2, hc, fun v H' A st re => ?_⟩
        exact k v H' A (st1.trans st) ((re.up hc (lists_step s1 st)).from_ st1)
      · simp at e
    · simp at e
  · simp at e
/-- a call whose argument is a new source of draws -/
theorem i_fnt {f : Nat} (hm : ∀ ds ts q, F f ds ts = some q → ds.length = 1) (h : tE K F (.fnt f a) σ H Q) : tCall (spOf K 1 (F f)) [] E0 (tCons (tE K F a) tNil) σ H Q := by
  obtain ⟨ρ, W, T, ts, r, ts', s, e, k⟩ := h
  simp only [ev] at e
  split at e
  · rename_i xs ts1 e1
    split at e
    · rename_i is e2
      split at e
      · rename_i r1 ts2 e3
        split at e
        · rename_i hc
          simp only [Option.some.injEq, Prod.mk.injEq] at e
          obtain ⟨rfl, rfl⟩ := e
          refine ⟨ρ, W, T, ts, _, ts1, s, e1, fun v H1 A1 st1 re1 => ?_⟩
          have s1 := s.step st1
          obtain ⟨p, vs, rfl, eA, g, l, q⟩ := re1.sl
          have e4 := asInts_eq e2
          subst e4
          have e5 := q.int_eq
          subst e5
          obtain ⟨hp, hT, _⟩ := re1.fr p (by rw [eA]; simp)
          refine ⟨rfl, some p, is, [.tin], r1, ts2, ⟨g, by simpa using l⟩, ⟨.ref p, [], rfl, ⟨p, rfl, rfl⟩, rfl⟩, e3, hc, fun u H' A st re => ?_⟩
          have st2 : Step T H H' ts1 := by
            refine ⟨fun a o ga na => ?_, ?_⟩
            · refine st.keep a o (st1.keep a o ga na) fun z => ?_
              have z' := Option.some.inj z
              subst z'
              rw [hp] at ga; cases ga
            · have t1 := st1.tin
              cases hT2 : T with
              | none => trivial
              | some b =>
                rw [hT2] at t1
                refine ⟨st.keep b _ t1.1 fun z => ?_, t1.2⟩
                have z' := Option.some.inj z
                subst z'
                exact hT hT2
          have fr : ∀ a ∈ A, H a = none ∧ T ≠ some a ∧ ∃ vs, H' a = some (.lst vs) := fun a ha => by
            obtain ⟨x1, x2, x3⟩ := re.fr a ha
            exact ⟨st1.free x1, st1.neT x1, x3⟩
          have s2 := s.step st2
          have sl2 : RE K (Mof W T) T H H' u r1 A := ⟨fr, re.nd, re.sl.nl hc fun a vs ga z => by
            rcases z with z | z
            · obtain ⟨ws, g'⟩ := s2.lists a z
              rw [ga] at g'; cases g'
            · obtain ⟨_, _, ws, g'⟩ := fr a z
              rw [ga] at g'; cases g'⟩
          exact k u H' A st2 sl2
        · simp at e
      · simp at e
    · simp at e
  · simp at e

/-! ### list(range(n)) -/
theorem upto_rg : ∀ (n k : Nat), upto k n = (List.range n).map fun i => D.int ((k + i : Nat) : Int)
  | 0, _ => rfl
  | n + 1, k => by
    rw [List.range_succ_eq_map, List.map_cons, List.map_map]
    simp only [upto]
    rw [upto_rg n (k + 1)]
    congr 1
    apply List.map_congr_left
    intro i _
    simp only [Function.comp]
    congr 2
    omega
theorem Rps.of_map {M : Addr → Prop} {T : Option Addr} {H : Hp} {f : Nat → D} {g : Nat → V} (h : ∀ i, Rp K M T H (f i) (g i)) : ∀ l : List Nat, Rps K M T H (l.map f) (l.map g)
  | [] => rfl
  | i :: r => ⟨g i, _, rfl, h i, Rps.of_map h r⟩
theorem upto_rps {M : Addr → Prop} {T : Option Addr} {H : Hp} {n : Int} : Rps K M T H (upto 0 n.toNat) (rgV 0 n) := by
  rw [upto_rg]
  unfold rgV
  have e : (n - 0).toNat = n.toNat := by omega
  rw [e]
  exact Rps.of_map (fun i => by show V.int _ = V.int _; congr 1 <;> omega) _
theorem rng_ok {d : D} {xs : List D} (h : rngD d = some xs) : ∃ n : Int, d = .int n ∧ -1000000 ≤ n ∧ n ≤ 1000000 ∧ xs = upto 0 n.toNat := by
  cases d <;> simp only [rngD, reduceCtorEq] at h
  case int n =>
  split at h
  · rename_i hl
    simp only [Option.some.injEq] at h
    exact ⟨n, rfl, hl.1, hl.2, h.symm⟩
  · simp at h
theorem i_lrng (h : tE K F (.lrng a) σ H Q) : tLstRg (tRg1 (tE K F a)) σ H Q := by
  have h2 := i_op1 (a := a) (f := fun d => (rngD d).map .o1) (r := fun v H Q => ∃ n, v = .int n ∧ RgOk 0 n ∧ ∀ q, H q = none → Q (.ref q) (upd H q (.lst (rgV 0 n)))) (fun ρ ts => by simp only [ev]) ?_ h
  · exact h2
  · intro M T ts H x z v Q t hT hM e hx k
    obtain ⟨xs, e1, rfl⟩ := Option.map_eq_some_iff.mp e
    obtain ⟨n, rfl, hl, hl2, rfl⟩ := rng_ok e1
    refine ⟨n, hx, (by unfold RgOk; omega), fun q hq => k _ _ [q] (.new t hq) (.lst t hq ?_ upto_rps)⟩
    rw [rgV_length]
    have : LIM = 1000000 := rfl
    omega
end
end Lt

namespace Lt
open PySem PySem.Spec PyProof.Rows L2

/-! ### what is gone through: lists, tuples, ranges; pairs of two, counted ones -/
inductive Kd where
  | l | t
def SqK : Kd → Hp → Addr → List V → Prop
  | .l, H, a, xs => H a = some (.lst xs)
  | .t, H, a, xs => H a = some (.tup xs)
def IsIt : Kd → Heap → Addr → Addr → Nat → Prop
  | .l, h, it, a, i => h.IsListIter it a i
  | .t, h, it, a, i => h.IsTupleIter it a i
def IsSq : Kd → Heap → Addr → Array Value → Prop
  | .l, h, a, its => h.IsList a its
  | .t, h, a, its => h.IsTuple a its
def kdN : Kd → String
  | .l => "list_iterator"
  | .t => "tuple_iterator"
theorem sq_of {X : Cx} {pins : List (Addr × Obj)} {σ : L2.St} {H : Hp} {s : Shared} {a : Addr} {xs : List V} {k : Kd} (I : Inv X pins σ H s) (h : SqK k H a xs) : ∃ its : List Value, Vals xs its ∧ IsSq k s.heap a its.toArray ∧ xs.length ≤ sizeLine := by
  cases k with
  | l =>
    obtain ⟨its, r, p, z⟩ := I.list (SqL.of h)
    exact ⟨its, r, p.isList, z⟩
  | t =>
    obtain ⟨its, r, p, z⟩ := I.tuple (SqT.of h)
    exact ⟨its, r, p, z⟩
theorem sq_inj {k : Kd} {H : Hp} {a : Addr} {xs ys : List V} (h : SqK k H a xs) (h' : SqK k H a ys) : xs = ys := by
  cases k <;> (have e := Option.some.inj (h.symm.trans h'); injection e)
theorem sq_ne {k : Kd} {H : Hp} {a b : Addr} {xs : List V} (h : SqK k H a xs) (n : H b = none) : a ≠ b := by
  cases k <;> exact ne_of_none h n
theorem it_obj {k : Kd} {h : Heap} {it a : Addr} {i : Nat} (x : IsIt k h it a i) : ∃ o, h.get? it = some o ∧ ∀ v, o.data ≠ .cell v := by
  cases k <;> (obtain ⟨o, e, _, d⟩ := x; exact ⟨o, e, fun v q => by rw [d] at q; cases q⟩)
theorem it_keep {k : Kd} {h h' : Heap} {it a : Addr} {i : Nat} (x : IsIt k h it a i) (q : ∀ o, h.get? it = some o → h'.get? it = some o) : IsIt k h' it a i := by
  cases k
  · exact Heap.IsListIter.at x q
  · exact Heap.IsTupleIter.at x q
/-- one drawn after another -/
theorem drw {prog : Program} {w : World} {A : Around} (hh : A.handled = none) (k : Kd) (it a : Addr) (hne : a ≠ it) (items : Array Value) :
    Draws prog w A it [it, a] items.size (fun i v => items[i]? = some v) (fun i h => IsIt k h it a i ∧ IsSq k h a items) := by
  cases k
  · exact Draws.list hh it a hne items
  · exact Draws.tuple hh it a hne items
theorem bgn (k : Kd) (a : Addr) (items : Array Value) : Begins (.ref a) { cls := .type (kdN k), data := .fields #[.ref a, .int 0 0] } fun h => IsSq k h a items := by
  cases k
  · exact begins_list a items
  · exact begins_tuple a items
theorem it_new {k : Kd} {h : Heap} {it a : Addr} (e : h.get? it = some { cls := .type (kdN k), data := .fields #[.ref a, .int 0 0] }) : IsIt k h it a 0 := by
  cases k <;> exact ⟨_, e, rfl, rfl⟩
/-- a new pair is drawn -/
theorem pair_item {X : Cx} {pins : List (Addr × Obj)} {σ : L2.St} {H : Hp} {s : Shared} {E : Value → Shared → Prop} {tg : Expr} {I : Addr} {fpW wr fp : List Addr} {n i : Nat} {P1 P2 : Nat → Value → Prop} {St : Nat → Heap → Prop} {tn : Heap → Prop} {yl : V → Hp → Prop} {x y : V}
    (W : GoesN X.prog X.w X.A tg I fpW wr n (fun i h₀ v h => ∃ T u1 u2, v = Value.ref T ∧ h₀.objs.size ≤ T ∧ P1 i u1 ∧ P2 i u2 ∧ h.IsTuple T #[u1, u2]) St)
    (J : Inv X pins σ H s) (hw : ∀ b ∈ wr, b ∈ fp) (hf : ∀ b ∈ fp, FpOk X pins H b) (hlt : ∀ b ∈ fp, b < s.heap.objs.size) (hi : i < n) (st : St i s.heap)
    (h1 : ∀ u, P1 i u → RelV x u) (h2 : ∀ u, P2 i u → RelV y u) (htn : ∀ h', St (i + 1) h' → tn h') (hy : ∀ T, H T = none → yl (.ref T) (upd H T (.tup [x, y]))) :
    wpAny (model X.prog X.w) X.A (pyNext (.ref I)) (fun r s1 => ∃ u, r = some u ∧ wpAny (model X.prog X.w) X.A (letOwnedTupleGo tg (.ref I) u) (fun _ s2 => ∃ x' H', Inv X pins σ H' s2 ∧ RelV x' u ∧ yl x' H' ∧ tn s2.heap ∧ ∀ b ∈ fp, H' b = none) E s1) E s := by
  refine W.goes i s _ _ hi st fun v h' tk hY st' hk htk => ?_
  obtain ⟨T, u1, u2, rfl, hT, p1, p2, ht⟩ := hY
  have hn : H T = none := J.hok.fresh hT
  have new : ObjOk X.prog X.w (upd H T (.tup [x, y])) h' T (.tup [x, y]) := ⟨le_line (by show 2 ≤ LIM; decide), [u1, u2], .cons (h1 _ p1) (.cons (h2 _ p2) .nil), ht⟩
  have J1 : Inv X pins σ (upd H T (.tup [x, y])) { s with heap := h', toks := tk } := J.turnedNew (ch := fp) (fun b o hb q => hk b o (fun z => hb (hw b z)) q) hf hT new
  exact ⟨.ref T, _, J1, rfl, hy T hn, htn _ st', fun b hb => by rw [upd_ne (Nat.ne_of_lt (Nat.lt_of_lt_of_le (hlt b hb) hT))]; exact (hf b hb).1⟩
/-- the end -/
theorem pair_done {X : Cx} {pins : List (Addr × Obj)} {σ : L2.St} {H : Hp} {s : Shared} {E : Value → Shared → Prop} {tg : Expr} {I : Addr} {fpW wr fp : List Addr} {n : Nat} {Y : Nat → Heap → Value → Heap → Prop} {St : Nat → Heap → Prop}
    (W : GoesN X.prog X.w X.A tg I fpW wr n Y St) (J : Inv X pins σ H s) (hw : ∀ b ∈ wr, b ∈ fp) (hf : ∀ b ∈ fp, FpOk X pins H b) (st : St n s.heap) :
    wpAny (model X.prog X.w) X.A (pyNext (.ref I)) (fun r s1 => r = none ∧ Inv X pins σ H s1) E s :=
  W.stops s (fun s1 => Inv X pins σ H s1) E st fun h' tk hk _ => J.turnedL (ch := fp) (fun b o hb q => hk b o (fun z => hb (hw b z)) q) hf
/-- enumerate(v) -/
def ItE (k : Kd) (a : Addr) : It :=
  ⟨fun i H => ∃ xs x, SqK k H a xs ∧ xs[i]? = some x,
    fun i H v H' => ∃ T x, v = .ref T ∧ H T = none ∧ H' = upd H T (.tup [.int (i : Nat), x]) ∧ ∀ xs, SqK k H a xs → xs[i]? = some x,
    fun i H => ∃ xs, SqK k H a xs ∧ xs.length = i⟩
theorem goes_enum {X : Cx} {elts : List Expr} {kk : Nat} {tpos : Pos} (k : Kd) (a e it : Addr) (its : List Value) (hh : X.A.handled = none) (hne : e ≠ it) (h1 : a ≠ it) (h2 : a ≠ e) :
    GoesN X.prog X.w X.A (.Tuple elts kk tpos) e [e, it, a] [e, it] its.toArray.size (fun i h₀ v h => ∃ T u1 u2, v = Value.ref T ∧ h₀.objs.size ≤ T ∧ (∃ t, u1 = Value.int ((0 : Int) + (i : Int)) t) ∧ its.toArray[i]? = some u2 ∧ h.IsTuple T #[u1, u2])
      (fun i h => (∃ old, IsEnum h e it ((0 : Int) + (i : Int)) old) ∧ IsIt k h it a i ∧ IsSq k h a its.toArray) :=
  (GoesN.enumFrom 0 (drw (show X.A.in1.handled = none from hh) k it a h1 its.toArray) e hne (by simp [hne, Ne.symm h2]) (by simp)).mono fun j h₀ v h' _ ⟨T, t, x, h1, h2, h3, h4⟩ => ⟨T, _, x, h1, h2, ⟨t, rfl⟩, h3, h4⟩
theorem turn_enumK {P : Program} {w : World} {K : PySem.W.Frag} {elts : List Expr} {kk : Nat} {tpos : Pos} (k : Kd) (a e it : Addr) :
    Turn P w K (.Tuple elts kk tpos) (ItE k a) [e, it] e (fun i h => (∃ old, IsEnum h e it ((0 : Int) + (i : Int)) old) ∧ IsIt k h it a i ∧ e ≠ it) where
  mem := by simp
  obj := fun i h st b hb => by
    obtain ⟨⟨old, he⟩, hi, _⟩ := st
    rcases List.mem_cons.mp hb with z | z
    · rw [z]; exact ⟨_, he, fun v q => nomatch q⟩
    · rw [List.mem_singleton.mp z]; exact it_obj hi
  keep := fun i h h' st q => by
    obtain ⟨⟨old, he⟩, hi, hne⟩ := st
    exact ⟨⟨old, q e (by simp) _ he⟩, it_keep hi fun o z => q it (by simp) o z, hne⟩
  item := by
    intro X hP hw hK hc i pins s σ H E I hf st ⟨xs, x, hq, hx⟩
    subst hP hw hK
    obtain ⟨⟨old, he⟩, hit, hne⟩ := st
    obtain ⟨its, rv, p, hz⟩ := sq_of I hq
    obtain ⟨u, hu, ru⟩ := rv.get hx
    have hni := sq_ne hq (hf it (by simp)).1
    have hne2 := sq_ne hq (hf e (by simp)).1
    have hi : i < its.toArray.size := by
      have := (List.getElem?_eq_some_iff.mp hu).1
      simpa using this
    refine pair_item (x := .int (i : Nat)) (y := x) (fp := [e, it]) (yl := fun x H' => (ItE k a).yld i H x H') (tn := fun h => (∃ old, IsEnum h e it ((0 : Int) + ((i + 1 : Nat) : Int)) old) ∧ IsIt k h it a (i + 1) ∧ e ≠ it) (P1 := fun i u => ∃ t, u = Value.int ((0 : Int) + (i : Int)) t) (P2 := fun i u => its.toArray[i]? = some u) (goes_enum k a e it its (I.ok.hd hc) hne hni hne2)
      I (by simp) hf (fun b hb => ?_) hi ⟨⟨old, he⟩, hit, p⟩ (fun u ⟨t, hu⟩ => ⟨t, by rw [hu]; congr 1; omega⟩) (fun u' hu' => ?_) (fun h' ⟨h1, h2, h3⟩ => ?_) fun T hT => ⟨T, x, rfl, hT, rfl, fun ys hy => by rw [sq_inj hy hq]; exact hx⟩
    · rcases List.mem_cons.mp hb with z | z
      · rw [z]; exact Heap.lt_size he
      · rw [List.mem_singleton.mp z]; obtain ⟨o, q, _⟩ := it_obj hit; exact Heap.lt_size q
    · have e2 : its[i]? = some u' := by simpa using hu'
      rw [hu] at e2
      cases e2
      exact ru
    · exact ⟨h1, h2, hne⟩
  done := by
    intro X hP hw hK hc i pins s σ H E I hf st ⟨xs, hq, hx⟩
    subst hP hw hK
    obtain ⟨⟨old, he⟩, hit, hne⟩ := st
    obtain ⟨its, rv, p, hz⟩ := sq_of I hq
    have hni := sq_ne hq (hf it (by simp)).1
    have hne2 := sq_ne hq (hf e (by simp)).1
    have hl : i = its.toArray.size := by
      have := rv.length
      rw [List.size_toArray]
      omega
    subst hl
    exact pair_done (fp := [e, it]) (goes_enum (elts := elts) (kk := kk) (tpos := tpos) k a e it its (I.ok.hd hc) hne hni hne2) I (by simp) hf ⟨⟨old, he⟩, hit, p⟩
  self := fun A i s Q E st h => by
    obtain ⟨⟨old, he⟩, _⟩ := st
    exact wpAny_pyIter_enum he h

/-- zip(v, w) -/
def ItZ (k k' : Kd) (a b : Addr) : It :=
  ⟨fun i H => ∃ xs ys x y, SqK k H a xs ∧ SqK k' H b ys ∧ xs[i]? = some x ∧ ys[i]? = some y,
    fun i H v H' => ∃ T x y, v = .ref T ∧ H T = none ∧ H' = upd H T (.tup [x, y]) ∧ (∀ xs, SqK k H a xs → xs[i]? = some x) ∧ ∀ ys, SqK k' H b ys → ys[i]? = some y,
    fun i H => ∃ xs ys, SqK k H a xs ∧ SqK k' H b ys ∧ min xs.length ys.length = i⟩
structure Zp (z TI TO i1 i2 : Addr) : Prop where
  a : TI ≠ z
  b : TO ≠ z
  c : TI ≠ TO
  d : TI ≠ i1
  e : TI ≠ i2
  f : z ≠ i1
  g : z ≠ i2
  h : TO ≠ i1
  i : TO ≠ i2
  j : i1 ≠ i2
theorem goes_zip {X : Cx} {elts : List Expr} {kk : Nat} {tpos : Pos} (k k' : Kd) {a b z TI TO i1 i2 : Addr} (Z : Zp z TI TO i1 i2) (its its2 : List Value) (hh : X.A.handled = none) (ha : ∀ c ∈ [z, TI, TO, i1, i2], a ≠ c) (hb : ∀ c ∈ [z, TI, TO, i1, i2], b ≠ c) :
    GoesN X.prog X.w X.A (.Tuple elts kk tpos) z (z :: TI :: TO :: ([i1, a] ++ [i2, b])) [z, TO, i1, i2] (min its.toArray.size its2.toArray.size) (fun i h₀ v h => ∃ T u1 u2, v = Value.ref T ∧ h₀.objs.size ≤ T ∧ its.toArray[i]? = some u1 ∧ its2.toArray[i]? = some u2 ∧ h.IsTuple T #[u1, u2])
      (fun i h => IsZip h z TI TO .none ∧ IsTupOf2 h TI (.ref i1) (.ref i2) ∧ (∃ a1 a2, IsTupOf2 h TO a1 a2) ∧ (IsIt k h i1 a i ∧ IsSq k h a its.toArray) ∧ IsIt k' h i2 b i ∧ IsSq k' h b its2.toArray) :=
  GoesN.zip2 (fp1 := [i1, a]) (fp2 := [i2, b])
    ⟨Z.a, Z.b, Z.c, Z.d, by simp, by simp [Z.f, Ne.symm (ha z (by simp))], by simp [Z.h, Ne.symm (ha TO (by simp))], Z.e, by simp, by simp [Z.g, Ne.symm (hb z (by simp))], by simp [Z.i, Ne.symm (hb TO (by simp))],
      by simp [Z.j, Ne.symm (hb i1 (by simp))], by simp [Ne.symm Z.j, Ne.symm (ha i2 (by simp))]⟩
    (drw (show X.A.in1.handled = none from hh) k i1 a (ha i1 (by simp)) its.toArray) (drw (show X.A.in1.handled = none from hh) k' i2 b (hb i2 (by simp)) its2.toArray)
theorem turn_zipK {P : Program} {w : World} {K : PySem.W.Frag} {elts : List Expr} {kk : Nat} {tpos : Pos} (k k' : Kd) {a b z TI TO i1 i2 : Addr} (Z : Zp z TI TO i1 i2) :
    Turn P w K (.Tuple elts kk tpos) (ItZ k k' a b) [z, TI, TO, i1, i2] z (fun i h => IsZip h z TI TO .none ∧ IsTupOf2 h TI (.ref i1) (.ref i2) ∧ (∃ a1 a2, IsTupOf2 h TO a1 a2) ∧ IsIt k h i1 a i ∧ IsIt k' h i2 b i) where
  mem := by simp
  obj := fun i h st c hc => by
    obtain ⟨hz, hTI, ⟨x, y, hTO⟩, h1, h2⟩ := st
    simp only [List.mem_cons, List.not_mem_nil, or_false] at hc
    rcases hc with q | q | q | q | q <;> rw [q]
    · exact ⟨_, hz, fun v q => nomatch q⟩
    · exact ⟨_, hTI, fun v q => nomatch q⟩
    · exact ⟨_, hTO, fun v q => nomatch q⟩
    · exact it_obj h1
    · exact it_obj h2
  keep := fun i h h' st q => by
    obtain ⟨hz, hTI, ⟨x, y, hTO⟩, h1, h2⟩ := st
    exact ⟨q z (by simp) _ hz, q TI (by simp) _ hTI, ⟨x, y, q TO (by simp) _ hTO⟩, it_keep h1 fun o e => q i1 (by simp) o e, it_keep h2 fun o e => q i2 (by simp) o e⟩
  item := by
    intro X hP hw hK hc i pins s σ H E I hf st ⟨xs, ys, x, y, hqx, hqy, hx, hy⟩
    subst hP hw hK
    obtain ⟨hz, hTI, hTO, h1, h2⟩ := st
    obtain ⟨its, rv, p, _⟩ := sq_of I hqx
    obtain ⟨its2, rv2, p2, _⟩ := sq_of I hqy
    obtain ⟨u, hu, ru⟩ := rv.get hx
    obtain ⟨u2, hu2, ru2⟩ := rv2.get hy
    have ha : ∀ c ∈ [z, TI, TO, i1, i2], a ≠ c := fun c hc => sq_ne hqx (hf c hc).1
    have hb : ∀ c ∈ [z, TI, TO, i1, i2], b ≠ c := fun c hc => sq_ne hqy (hf c hc).1
    have hi : i < min its.toArray.size its2.toArray.size := by
      have e1 := (List.getElem?_eq_some_iff.mp hu).1
      have e2 := (List.getElem?_eq_some_iff.mp hu2).1
      rw [List.size_toArray, List.size_toArray]
      omega
    refine pair_item (x := x) (y := y) (fp := [z, TI, TO, i1, i2]) (yl := fun x H' => (ItZ k k' a b).yld i H x H') (tn := fun h => IsZip h z TI TO .none ∧ IsTupOf2 h TI (.ref i1) (.ref i2) ∧ (∃ a1 a2, IsTupOf2 h TO a1 a2) ∧ IsIt k h i1 a (i + 1) ∧ IsIt k' h i2 b (i + 1)) (P1 := fun i u => its.toArray[i]? = some u) (P2 := fun i u => its2.toArray[i]? = some u) (goes_zip k k' Z its its2 (I.ok.hd hc) ha hb)
      I (by simp) hf (fun c hcm => ?_) hi ⟨hz, hTI, hTO, ⟨h1, p⟩, h2, p2⟩ (fun u' hu' => ?_) (fun u' hu' => ?_) (fun h' ⟨q1, q2, q3, q4, q5⟩ => ⟨q1, q2, q3, q4.1, q5.1⟩) fun T hT => ⟨T, x, y, rfl, hT, rfl, fun l hl => by rw [sq_inj hl hqx]; exact hx, fun l hl => by rw [sq_inj hl hqy]; exact hy⟩
    · obtain ⟨x0, y0, hTO⟩ := hTO
      simp only [List.mem_cons, List.not_mem_nil, or_false] at hcm
      rcases hcm with q | q | q | q | q <;> rw [q]
      · exact Heap.lt_size hz
      · exact Heap.lt_size hTI
      · exact Heap.lt_size hTO
      · obtain ⟨o, e, _⟩ := it_obj h1; exact Heap.lt_size e
      · obtain ⟨o, e, _⟩ := it_obj h2; exact Heap.lt_size e
    · have e2 : its[i]? = some u' := by simpa using hu'
      rw [hu] at e2
      cases e2
      exact ru
    · have e2 : its2[i]? = some u' := by simpa using hu'
      rw [hu2] at e2
      cases e2
      exact ru2
  done := by
    intro X hP hw hK hc i pins s σ H E I hf st ⟨xs, ys, hqx, hqy, hend⟩
    subst hP hw hK
    obtain ⟨hz, hTI, hTO, h1, h2⟩ := st
    obtain ⟨its, rv, p, _⟩ := sq_of I hqx
    obtain ⟨its2, rv2, p2, _⟩ := sq_of I hqy
    have ha : ∀ c ∈ [z, TI, TO, i1, i2], a ≠ c := fun c hc => sq_ne hqx (hf c hc).1
    have hb : ∀ c ∈ [z, TI, TO, i1, i2], b ≠ c := fun c hc => sq_ne hqy (hf c hc).1
    have hl : i = min its.toArray.size its2.toArray.size := by
      have e1 := rv.length
      have e2 := rv2.length
      rw [List.size_toArray, List.size_toArray]
      omega
    subst hl
    exact pair_done (fp := [z, TI, TO, i1, i2]) (goes_zip (elts := elts) (kk := kk) (tpos := tpos) k k' Z its its2 (I.ok.hd hc) ha hb) I (by simp) hf ⟨hz, hTI, hTO, ⟨h1, p⟩, h2, p2⟩
  self := fun A i s Q E st h => wpAny_pyIter_zip st.1 h
end Lt

namespace Lt
open PySem PySem.Spec PyProof.Rows L2

/-! ### enumerate(v) begins, v a list or a tuple -/
theorem enum_makes (k : Kd) (a : Addr) (its : Array Value) :
    Meets (Builtin.«enumerate.__new__» ⟨[.type "enumerate", .ref a], []⟩) (fun _ R s => IsSq k s.heap a its ∧
      R (.ok (.ret (.ref (s.heap.push { cls := .type (kdN k), data := .fields #[.ref a, .int 0 0] }).objs.size)))
        { s with heap := (s.heap.push { cls := .type (kdN k), data := .fields #[.ref a, .int 0 0] }).push { cls := .type "enumerate", data := .fields #[.none, .bool false, .ref s.heap.objs.size, rawInt 0, .none, .none] } }) :=
  .of_wp fun prog w A R s h => by
    obtain ⟨hp, g, d, tk, os⟩ := s
    obtain ⟨h1, h⟩ := h
    have hsub := sub_enumerate
    have q : ∀ {A' : Around} {E : Value → Shared → Prop} {Q : Value → Shared → Prop}, Q (.ref hp.objs.size) ⟨hp.push { cls := .type (kdN k), data := .fields #[.ref a, .int 0 0] }, g, d, tk, os⟩ → wpAny (model prog w) A' (pyIter (.ref a)) Q E ⟨hp, g, d, tk, os⟩ :=
      fun z => (bgn k a its).iter prog w _ _ ⟨hp, g, d, tk, os⟩ _ h1 z
    wp_walk using q
    refine wpAny_stack_any fun st => wpAny_pure ?_
    split
    · rename_i c _ _ _ _ _
      cases (c == Value.type "enumerate") <;> (wp_walk using q; exact ⟨_, rfl, h⟩)
    · wp_walk using q
      exact ⟨_, rfl, h⟩
theorem enum_call {prog : Program} {w : World} {A : Around} {E : Value → Shared → Prop} {s : Shared} {k : Kd} {a : Addr} {its : Array Value} {Q : Value → Shared → Prop} (h1 : IsSq k s.heap a its)
    (h : ∀ h', IsEnum h' (s.heap.objs.size + 1) s.heap.objs.size 0 .none → IsIt k h' s.heap.objs.size a 0 → (∀ b o, s.heap.get? b = some o → h'.get? b = some o) → Q (.ref (s.heap.objs.size + 1)) { s with heap := h' }) :
    wpAny (model prog w) A (call (.type "enumerate") [.ref a]) Q E s := by
  refine callType_new PySem.F.called_enumerate (by decide) (PySem.F.typeCall_enumerate_1 _) (PySem.F.newCall_enumerate_1 _) (fun obj => PySem.F.args_object_init_2 obj _) PySem.F.entry_enumerate_new (enum_makes k a its) ⟨h1, ?_⟩
  generalize ho : ({ cls := .type (kdN k), data := .fields #[.ref a, .int 0 0] } : Obj) = o
  have hz : (s.heap.push o).objs.size = s.heap.objs.size + 1 := Heap.size_push ..
  show _ ∧ _
  rw [hz]
  have g := Heap.get?_push_size (s.heap.push o) (o := { cls := .type "enumerate", data := .fields #[.none, .bool false, .ref s.heap.objs.size, rawInt 0, .none, .none] }) rfl
  rw [hz] at g
  have g2 : (s.heap.push o).get? s.heap.objs.size = some o := Heap.get?_push_size _ (by rw [← ho]; rfl)
  refine ⟨⟨_, g, rfl⟩, h _ g (it_new (by rw [ho]; exact Heap.get?_push_of_some _ g2)) fun b u x => Heap.get?_push_of_some _ (Heap.get?_push_of_some _ x)⟩

section
variable {X : Cx} {F : FT} {a b : Tm} {l e e2 : Expr}
/-- one list or tuple -/
def ItS (K : PySem.W.Frag) : Kd → Addr → It
  | .l, a => Itl K a
  | .t, a => Itt K a
theorem turn_sqK {P : Program} {w : World} {K : PySem.W.Frag} {tg : Expr} (k : Kd) (a it : Addr) : Turn P w K tg (ItS K k a) [it] it (fun i h => IsIt k h it a i) := by
  cases k
  · exact turn_list a it
  · exact turn_tuple a it
/-- a deep value that can be gone through -/
theorem seq_lies {K : PySem.W.Frag} {M : Addr → Prop} {T : Option Addr} {H : Hp} {d : D} {xs : List D} {v : V} (e : seqD d = some xs) (r : Rp K M T H d v) : ∃ k a vs, v = .ref a ∧ SqK k H a vs ∧ Rps K M T H xs vs := by
  cases d <;> simp only [seqD, reduceCtorEq, Option.some.injEq] at e
  · subst e
    obtain ⟨a, vs, e, g, m, l, q⟩ := r
    exact ⟨.t, a, vs, e, g, q⟩
  · subst e
    obtain ⟨a, vs, e, g, m, l, q⟩ := r
    exact ⟨.l, a, vs, e, g, q⟩
/-- .. and always lies as the same kind at the same place -/
theorem seq_lies2 {K : PySem.W.Frag} {M M' : Addr → Prop} {T T' : Option Addr} {H H' : Hp} {d : D} {xs : List D} {v : V} (e : seqD d = some xs) (r : Rp K M T H d v) :
    ∃ k a, v = .ref a ∧ (∃ vs, SqK k H a vs ∧ Rps K M T H xs vs ∧ xs.length ≤ LIM) ∧ ∀ M' T' H', Rp K M' T' H' d v → ∃ vs, SqK k H' a vs ∧ Rps K M' T' H' xs vs := by
  cases d <;> simp only [seqD, reduceCtorEq, Option.some.injEq] at e
  · subst e
    obtain ⟨a, vs, rfl, g, m, l, q⟩ := r
    refine ⟨.t, a, rfl, ⟨vs, g, q, by rw [← q.length]; exact l⟩, fun M' T' H' ⟨a', vs', e', g', m', l', q'⟩ => ?_⟩
    cases e'
    exact ⟨vs', g', q'⟩
  · subst e
    obtain ⟨a, vs, rfl, g, m, l, q⟩ := r
    refine ⟨.l, a, rfl, ⟨vs, g, q, by rw [← q.length]; exact l⟩, fun M' T' H' ⟨a', vs', e', g', m', l', q'⟩ => ?_⟩
    cases e'
    exact ⟨vs', g', q'⟩
theorem itS_go {K : PySem.W.Frag} {k : Kd} {a : Addr} {H : Hp} {vs : List V} (h : SqK k H a vs) {i : Nat} (hi : i < vs.length) : (ItS K k a).go i H := by
  cases k
  · exact ⟨vs, vs[i], SqL.of h, by simp [hi]⟩
  · exact ⟨vs, vs[i], SqT.of h, by simp [hi]⟩
theorem itS_stop {K : PySem.W.Frag} {k : Kd} {a : Addr} {H : Hp} {vs : List V} (h : SqK k H a vs) : (ItS K k a).stop vs.length H := by
  cases k
  · exact ⟨vs, SqL.of h, Nat.le_refl _⟩
  · exact ⟨vs, SqT.of h, Nat.le_refl _⟩
theorem itS_yld {K : PySem.W.Frag} {k : Kd} {a : Addr} {H H' : Hp} {vs : List V} {x : V} (h : SqK k H a vs) {i : Nat} (y : (ItS K k a).yld i H x H') : H' = H ∧ vs[i]? = some x := by
  cases k
  · exact ⟨y.1, y.2 vs (SqL.of h)⟩
  · exact ⟨y.1, y.2 vs (SqT.of h)⟩
theorem pi_sqK {tg : Expr} (hl : PE X l (tE X.K F a)) : PI X tg l (tI X.K F (.sq a)) := by
  refine ⟨fun pins s σ H R I h => ?_⟩
  obtain ⟨ρ, W, T, ts, xs, ts', sr, e, k⟩ := h
  simp only [evI] at e
  split at e
  · rename_i x ts1 e1
    obtain ⟨ys, e2, e3⟩ := Option.map_eq_some_iff.mp e
    simp only [Prod.mk.injEq] at e3
    obtain ⟨rfl, rfl⟩ := e3
    refine thn (hl.run pins s σ H (fun v H1 => Step T H H1 ts1 ∧ Rp X.K (Mof W T) T H1 x.fz v) I ⟨ρ, W, T, ts, x, ts1, sr, e1, fun v H1 A st re => ⟨st, re.fz sr.live⟩⟩) fun u s1 ⟨v, H1, I1, r1, st, rv⟩ => ?_
    obtain ⟨kd, p, rfl, ⟨vs, g, q, few⟩, all⟩ := seq_lies2 (M' := Mof W T) (T' := T) (H' := H1) e2 rv
    cases r1
    obtain ⟨its, rvs, ps, hz⟩ := sq_of I1 g
    refine (bgn kd p its.toArray).iter _ _ _ _ _ _ ps ?_
    refine ⟨s1.heap.objs.size, [s1.heap.objs.size], _, _, H1, rfl, I1.kept (t' := s1.toks) fun b o e => Heap.get?_push_of_some _ e, turn_sqK kd p _, it_new (Heap.get?_push_size _ (bgn kd p its.toArray).free), fun b hb => ?_, ?_⟩
    · rw [List.mem_singleton.mp hb]
      exact I1.fpOk (Nat.le_refl _) (I1.hok.fresh (Nat.le_refl _))
    · refine k _ [(.ref p, x.fz)] H1 st ⟨few, fun M T H i hz hi => ?_, fun M T H hz => ?_, fun M T H i y H' d hM hz hd hy => ?_⟩ (fun z hz => by rw [List.mem_singleton.mp hz]; exact rv)
      · obtain ⟨ws, g', q'⟩ := all M T H (hz (.ref p, x.fz) (by simp))
        exact itS_go g' (by rw [q'.length]; exact hi)
      · obtain ⟨ws, g', q'⟩ := all M T H (hz (.ref p, x.fz) (by simp))
        rw [← q'.length]
        exact itS_stop g'
      · obtain ⟨ws, g', q'⟩ := all M T H (hz (.ref p, x.fz) (by simp))
        obtain ⟨e4, e5⟩ := itS_yld g' hy
        subst e4
        obtain ⟨w, e6, e7⟩ := q'.get hd
        rw [e5] at e6
        cases e6
        exact ⟨.inl rfl, e7⟩
  · simp at e
theorem pi_rngK {tg : Expr} {p pos : Pos} (hg : Gl X "range") (hm : X.mg "range" = none) (hs : starEach [l] X.env = [(false, eval l X.env)]) (hl : PE X l (tE X.K F a)) : PI X tg (.Call (.Name "range" p) [l] [] pos) (tI X.K F (.rng a)) := by
  refine PI.imp (pi_range1 hg hm (pa_cons hl pa_nil (by rw [hs]; rfl)) hs) fun σ H R h => ?_
  obtain ⟨ρ, W, T, ts, xs, ts', sr, e, k⟩ := h
  simp only [evI] at e
  split at e
  · rename_i x ts1 e1
    obtain ⟨ys, e2, e3⟩ := Option.map_eq_some_iff.mp e
    simp only [Prod.mk.injEq] at e3
    obtain ⟨rfl, rfl⟩ := e3
    obtain ⟨n, hx, h1, h2, rfl⟩ := rng_ok e2
    refine ⟨ρ, W, T, ts, x, ts1, sr, e1, fun v H1 A st re => ?_⟩
    have rv := re.fz sr.live
    rw [hx] at rv
    cases (show v = .int n from rv)
    refine ⟨n, rfl, by omega, by omega, k _ [] H1 st ?_ (fun z hz => by simp at hz)⟩
    have el : (upto 0 n.toNat).length = n.toNat := by rw [upto_rg]; simp
    refine ⟨by rw [el]; have : LIM = 1000000 := rfl; omega, fun M T H i _ hi => by rw [el] at hi; exact hi, fun M T H _ => by rw [el]; exact Nat.le_refl _, fun M T H i y H' d hM _ hd hy => ?_⟩
    obtain ⟨e4, e5⟩ := hy
    subst e4
    refine ⟨.inl rfl, ?_⟩
    rw [upto_rg, List.getElem?_map] at hd
    obtain ⟨j, e6, rfl⟩ := Option.map_eq_some_iff.mp hd
    have e7 : j = i := by
      obtain ⟨hi, e8⟩ := List.getElem?_eq_some_iff.mp e6
      rw [List.getElem_range] at e8
      exact e8.symm
    subst e7
    rw [e5]
    show V.int _ = V.int _
    congr 1 <;> omega
  · simp at e
theorem enmD_get : ∀ (xs : List D) (k i : Nat), (enmD k xs)[i]? = xs[i]?.map fun d => D.tup [.int ((k + i : Nat) : Int), d]
  | [], k, i => by simp [enmD]
  | x :: r, k, 0 => by simp [enmD]
  | x :: r, k, i + 1 => by
    simp only [enmD, List.getElem?_cons_succ]
    rw [enmD_get r (k + 1) i]
    have e : k + 1 + i = k + (i + 1) := by omega
    rw [e]
theorem enmD_len : ∀ (xs : List D) (k : Nat), (enmD k xs).length = xs.length
  | [], _ => rfl
  | x :: r, k => by simp [enmD, enmD_len r]
theorem zipD_get : ∀ (xs ys : List D) (i : Nat), (zipD xs ys)[i]? = match xs[i]?, ys[i]? with
    | some x, some y => some (D.tup [x, y])
    | _, _ => none
  | [], _, i => by simp [zipD]
  | x :: r, [], i => by
    simp only [zipD, List.getElem?_nil]
    split <;> simp_all
  | x :: r, y :: s, 0 => by simp [zipD]
  | x :: r, y :: s, i + 1 => by
    simp only [zipD, List.getElem?_cons_succ]
    exact zipD_get r s i
theorem zipD_len : ∀ (xs ys : List D), (zipD xs ys).length = min xs.length ys.length
  | [], _ => by simp [zipD]
  | x :: r, [] => by simp [zipD]
  | x :: r, y :: s => by simp only [zipD, List.length_cons, zipD_len r s]; omega
theorem pi_chK {tg : Expr} (hl : PE X l (tE X.K F a)) : PI X tg l (tI X.K F (.ch a)) := by
  refine PI.imp (pi_str hl) fun σ H R h => ?_
  obtain ⟨ρ, W, T, ts, xs, ts', sr, e, k⟩ := h
  simp only [evI] at e
  split at e
  · rename_i x ts1 e1
    split at e
    · rename_i hlim
      simp only [Option.some.injEq, Prod.mk.injEq] at e
      obtain ⟨rfl, rfl⟩ := e
      refine ⟨ρ, W, T, ts, _, ts1, sr, e1, fun v H1 A st re => ?_⟩
      cases (show v = .str x from re.sl)
      refine ⟨x, rfl, k _ [] H1 st ?_ (fun z hz => by simp at hz)⟩
      refine ⟨by simpa using hlim, fun M T H i _ hi => (show i < x.cps.size by simpa using hi), fun M T H _ => (show x.cps.size ≤ _ by simp), fun M T H i y H' d hM _ hd hy => ?_⟩
      obtain ⟨e4, c, e5, e6⟩ := hy
      subst e4
      refine ⟨.inl rfl, ?_⟩
      rw [List.getElem?_map] at hd
      obtain ⟨c', e7, rfl⟩ := Option.map_eq_some_iff.mp hd
      have e8 : x.cps[i]? = some c' := by simpa using e7
      rw [e5] at e8
      cases e8
      exact e6
    · simp at e
  · simp at e
theorem pi_enmK {elts : List Expr} {kk : Nat} {tpos p pos : Pos} (hg : Gl X "enumerate") (hm : X.mg "enumerate" = none) (hs : starEach [l] X.env = [(false, eval l X.env)]) (hl : PE X l (tE X.K F a)) :
    PI X (.Tuple elts kk tpos) (.Call (.Name "enumerate" p) [l] [] pos) (tI X.K F (.enm a)) := by
  refine ⟨fun pins s σ H R I h => ?_⟩
  obtain ⟨ρ, W, T, ts, xs, ts', sr, e, k⟩ := h
  simp only [evI] at e
  split at e
  · rename_i x ts1 e1
    obtain ⟨ys, e2, e3⟩ := Option.map_eq_some_iff.mp e
    simp only [Prod.mk.injEq] at e3
    obtain ⟨rfl, rfl⟩ := e3
    have ha : PA X [l] (tCons (tE X.K F a) tNil) := pa_cons hl pa_nil (by rw [hs]; rfl)
    refine Call_ (ld_blt I hg hm boot_enumerate (PyProof.Rows.callWith_type1 (thn (ha.run pos pins s σ H (fun vs H1 => ∃ v, vs = [v] ∧ Step T H H1 ts1 ∧ Rp X.K (Mof W T) T H1 x.fz v) I ⟨ρ, W, T, ts, x, ts1, sr, e1, fun v H1 A st re => ⟨v, rfl, st, re.fz sr.live⟩⟩) fun us s1 ⟨vs, H1, I1, r1, q1⟩ => ?_) hs rfl))
    obtain ⟨v, rfl, st, rv⟩ := q1
    obtain ⟨u, rfl, ru⟩ := vals1 r1
    obtain ⟨kd, q, rfl, ⟨vs, g, rs, few⟩, all⟩ := seq_lies2 (M' := Mof W T) (T' := T) (H' := H1) e2 rv
    cases ru
    obtain ⟨its, rvs, ps, hz⟩ := sq_of I1 g
    refine enum_call ps fun h' he hit hk => wpAny_pyIter_enum he ?_
    refine ⟨s1.heap.objs.size + 1, [s1.heap.objs.size + 1, s1.heap.objs.size], _, _, H1, rfl, I1.kept (t' := s1.toks) hk, turn_enumK kd q _ _, ⟨⟨.none, by simpa using he⟩, hit, Nat.succ_ne_self _⟩, fun b hb => ?_, ?_⟩
    · have hle : s1.heap.objs.size ≤ b := by
        rcases List.mem_cons.mp hb with z | z
        · rw [z]; exact Nat.le_succ _
        · rw [List.mem_singleton.mp z]; exact Nat.le_refl _
      exact I1.fpOk hle (I1.hok.fresh hle)
    · refine k _ [(.ref q, x.fz)] H1 st ⟨by rw [enmD_len]; exact few, fun M T H i hz hi => ?_, fun M T H hz => ?_, fun M T H i y H' d hM hz hd hy => ?_⟩ (fun z hz => by rw [List.mem_singleton.mp hz]; exact rv)
      · obtain ⟨ws, g', q'⟩ := all M T H (hz (.ref q, x.fz) (by simp))
        rw [enmD_len, ← q'.length] at hi
        exact ⟨ws, ws[i], g', by simp [hi]⟩
      · obtain ⟨ws, g', q'⟩ := all M T H (hz (.ref q, x.fz) (by simp))
        rw [enmD_len, ← q'.length]
        exact ⟨ws, g', rfl⟩
      · obtain ⟨ws, g', q'⟩ := all M T H (hz (.ref q, x.fz) (by simp))
        obtain ⟨Tn, x', rfl, hn, rfl, hx'⟩ := hy
        rw [enmD_get] at hd
        obtain ⟨d', e4, rfl⟩ := Option.map_eq_some_iff.mp hd
        obtain ⟨w, e5, e6⟩ := q'.get e4
        have e7 := hx' ws g'
        rw [e5] at e7
        have e8 := Option.some.inj e7
        subst e8
        refine ⟨.inr ⟨Tn, _, hn, rfl⟩, Tn, _, rfl, upd_same, fun m => hM Tn m hn, by show 2 ≤ LIM; decide, _, _, rfl, ?_, w, [], rfl, ?_, rfl⟩
        · show V.int _ = V.int _
          congr 1 <;> omega
        · exact Rp.imp (fun b o gb n => ⟨by rw [upd_ne (ne_of_none gb hn)]; exact gb, n⟩) e6
  · simp at e
theorem pi_zpK {elts : List Expr} {kk : Nat} {tpos p pos : Pos} (hg : Gl X "zip") (hm : X.mg "zip" = none) (hs : starEach [e, e2] X.env = (false, eval e X.env) :: starEach [e2] X.env) (hs2 : starEach [e2] X.env = [(false, eval e2 X.env)]) (h1 : PE X e (tE X.K F a)) (h2 : PE X e2 (tE X.K F b)) :
    PI X (.Tuple elts kk tpos) (.Call (.Name "zip" p) [e, e2] [] pos) (tI X.K F (.zp a b)) := by
  refine ⟨fun pins s σ H R I h => ?_⟩
  obtain ⟨ρ, W, T, ts, xs, ts', sr, ev, k⟩ := h
  simp only [evI] at ev
  split at ev
  · rename_i x ts1 e1
    split at ev
    · rename_i y ts2 e2'
      split at ev
      · rename_i xs1 ys1 e3 e4
        simp only [Option.some.injEq, Prod.mk.injEq] at ev
        obtain ⟨rfl, rfl⟩ := ev
        have ha : PA X [e, e2] (tCons (tE X.K F a) (tCons (tE X.K F b) tNil)) := pa_cons h1 (pa_cons h2 pa_nil (by rw [hs2]; rfl)) hs
        refine Call_ (ld_blt I hg hm PyProof.Rows.boot_zip (PyProof.Rows.callWith_type1 (thn (ha.run pos pins s σ H (fun vs H1 => ∃ v w, vs = [v, w] ∧ Step T H H1 ts2 ∧ Rp X.K (Mof W T) T H1 x.fz v ∧ Rp X.K (Mof W T) T H1 y.fz w) I
          ⟨ρ, W, T, ts, x, ts1, sr, e1, fun v H1 A st re => ⟨ρ, W, T, ts1, y, ts2, sr.step st, e2', fun w H2 A2 st2 re2 => ⟨v, w, rfl, st.trans st2, keepM st2 hTM (re.fz sr.live), re2.fz (sr.step st).live⟩⟩⟩) fun us s1 ⟨vs, H1, I1, r1, q1⟩ => ?_) hs (by rw [hs2]; rfl)))
        obtain ⟨v, w, rfl, st, rv, rw'⟩ := q1
        obtain ⟨u, u2, rfl, ru, ru2⟩ := vals2 r1
        obtain ⟨kd, q, rfl, ⟨vs, g, rs, few⟩, all⟩ := seq_lies2 (M' := Mof W T) (T' := T) (H' := H1) e3 rv
        obtain ⟨kd2, q2, rfl, ⟨ws, g2, rs2, few2⟩, all2⟩ := seq_lies2 (M' := Mof W T) (T' := T) (H' := H1) e4 rw'
        cases ru
        cases ru2
        obtain ⟨its, rvs, ps, _⟩ := sq_of I1 g
        obtain ⟨its2, rvs2, ps2, _⟩ := sq_of I1 g2
        refine zip_begins2 (bgn kd q its.toArray) (bgn kd2 q2 its2.toArray) ps ps2 fun h' hz hTI hTO o1 o2 hsz hk => wpAny_pyIter_zip hz ?_
        refine ⟨s1.heap.objs.size + 4, [s1.heap.objs.size + 4, s1.heap.objs.size + 2, s1.heap.objs.size + 3, s1.heap.objs.size, s1.heap.objs.size + 1], _, _, H1, rfl, I1.kept (t' := s1.toks) hk, turn_zipK kd kd2 ?_, ⟨hz, hTI, ⟨_, _, hTO⟩, it_new o1, it_new o2⟩, fun c hc => ?_, ?_⟩
        · constructor <;> exact fun z => by
            have z' : (_ : Nat) = _ := z
            omega
        · have hle : s1.heap.objs.size ≤ c := by
            simp only [List.mem_cons, List.not_mem_nil, or_false] at hc
            rcases hc with z | z | z | z | z <;> rw [z]
            · exact Nat.le_add_right _ _
            · exact Nat.le_add_right _ _
            · exact Nat.le_add_right _ _
            · exact Nat.le_refl _
            · exact Nat.le_add_right _ _
          exact I1.fpOk hle (I1.hok.fresh hle)
        · refine k _ [(.ref q, x.fz), (.ref q2, y.fz)] H1 st ⟨by rw [zipD_len]; omega, fun M T H i hz hi => ?_, fun M T H hz => ?_, fun M T H i z H' d hM hz hd hy => ?_⟩ (fun z hz => ?_)
          · obtain ⟨ls, g', q'⟩ := all M T H (hz (.ref q, x.fz) (by simp))
            obtain ⟨ls2, g2', q2'⟩ := all2 M T H (hz (.ref q2, y.fz) (by simp))
            rw [zipD_len, ← q'.length, ← q2'.length] at hi
            have i1 : i < ls.length := by omega
            have i2 : i < ls2.length := by omega
            exact ⟨ls, ls2, ls[i], ls2[i], g', g2', by simp [i1], by simp [i2]⟩
          · obtain ⟨ls, g', q'⟩ := all M T H (hz (.ref q, x.fz) (by simp))
            obtain ⟨ls2, g2', q2'⟩ := all2 M T H (hz (.ref q2, y.fz) (by simp))
            rw [zipD_len, ← q'.length, ← q2'.length]
            exact ⟨ls, ls2, g', g2', rfl⟩
          · obtain ⟨ls, g', q'⟩ := all M T H (hz (.ref q, x.fz) (by simp))
            obtain ⟨ls2, g2', q2'⟩ := all2 M T H (hz (.ref q2, y.fz) (by simp))
            obtain ⟨Tn, x', y', rfl, hn, rfl, hx', hy'⟩ := hy
            rw [zipD_get] at hd
            split at hd
            · rename_i d1 d2 e5 e6
              simp only [Option.some.injEq] at hd
              subst hd
              obtain ⟨w1, e7, e8⟩ := q'.get e5
              obtain ⟨w2, e9, e10⟩ := q2'.get e6
              have e11 := hx' ls g'
              have e12 := hy' ls2 g2'
              rw [e7] at e11
              rw [e9] at e12
              have e13 := Option.some.inj e11
              have e14 := Option.some.inj e12
              subst e13
              subst e14
              have mv : ∀ {d : D} {v : V}, Rp X.K M T H d v → Rp X.K M T (upd H Tn (.tup [w1, w2])) d v := fun r => Rp.imp (fun b o gb n => ⟨by rw [upd_ne (ne_of_none gb hn)]; exact gb, n⟩) r
              exact ⟨.inr ⟨Tn, _, hn, rfl⟩, Tn, _, rfl, upd_same, fun m => hM Tn m hn, by show 2 ≤ LIM; decide, w1, _, rfl, mv e8, w2, [], rfl, mv e10, rfl⟩
            · simp at hd
          · rcases List.mem_cons.mp hz with z | z
            · rw [z]; exact rv
            · rw [List.mem_singleton.mp z]; exact rw'
      · simp at ev
    · simp at ev
  · simp at ev
end
end Lt

namespace Lt
open PySem PySem.Spec PyProof.Rows L2

/-! ### slots -/
theorem getE_set : ∀ {ρ : Env} {i j : Nat} {y : Option R}, getE (setE ρ i y) j = if j = i ∧ i < ρ.length then y else getE ρ j
  | [], i, j, y => by simp [setE, getE]
  | x :: r, 0, 0, y => by simp [setE, getE]
  | x :: r, 0, j + 1, y => by simp [setE, getE]
  | x :: r, i + 1, 0, y => by simp [setE, getE]
  | x :: r, i + 1, j + 1, y => by simp [setE, getE, getE_set (ρ := r) (i := i) (j := j) (y := y)]
theorem setE_len : ∀ {ρ : Env} {i : Nat} {y : Option R}, (setE ρ i y).length = ρ.length
  | [], _, _ => rfl
  | x :: r, 0, _ => rfl
  | x :: r, i + 1, y => by simp [setE, setE_len (ρ := r)]
theorem wipeE_len {ρ : Env} : ∀ {vs : List Nat}, (wipeE ρ vs).length = ρ.length
  | [] => rfl
  | v :: vs => by unfold wipeE; rw [List.length_set, wipeE_len]
theorem getE_eq : ∀ {ρ : Env} {i : Nat}, getE ρ i = (ρ[i]?).join
  | [], i => by simp [getE]
  | x :: r, 0 => by simp [getE]
  | x :: r, i + 1 => by simp [getE, getE_eq (ρ := r)]
theorem wipeE_get {ρ : Env} {i : Nat} {r : R} : ∀ {vs : List Nat}, getE (wipeE ρ vs) i = some r → getE ρ i = some r ∧ i ∉ vs
  | [], h => ⟨h, by simp⟩
  | v :: vs, h => by
    unfold wipeE at h
    rw [getE_eq] at h
    by_cases e : v = i
    · subst e
      rw [List.getElem?_set] at h
      split at h
      · split at h <;> simp at h
      · rename_i hn; exact absurd rfl hn
    · rw [List.getElem?_set_ne e, ← getE_eq] at h
      obtain ⟨h1, h2⟩ := wipeE_get h
      exact ⟨h1, by simp only [List.mem_cons, not_or]; exact ⟨fun z => e z.symm, h2⟩⟩
theorem wipe_at {σ : L2.St} {j : Nat} : ∀ {vs : List Nat}, (wipe σ vs)[j]? = if j ∈ vs then (if j < σ.length then some none else none) else σ[j]?
  | [] => by simp [wipe]
  | v :: vs => by
    unfold wipe
    rw [List.getElem?_set]
    by_cases e : v = j
    · subst e
      simp [wipe_length]
    · rw [if_neg e, wipe_at (vs := vs)]
      have e2 : ¬ j = v := fun z => e z.symm
      simp [e2]
theorem wipe_again {σ : L2.St} {vs : List Nat} {σ2 : L2.St} (hl : σ2.length = σ.length) (h : ∀ j, j ∉ vs → σ2[j]? = σ[j]?) : wipe σ2 vs = wipe σ vs := by
  apply List.ext_getElem?
  intro j
  rw [wipe_at, wipe_at, hl]
  by_cases hj : j ∈ vs
  · simp [hj]
  · simp [hj, h j hj]
section
variable {K : PySem.W.Frag} {ρ : Env} {W : List (List Addr)} {T : Option Addr} {σ : L2.St} {H H1 : Hp} {ts ts1 : Tin}
theorem SR.set (s : SR K ρ W T σ H ts) {i : Nat} {d : D} {v : V} (h : Rp K (Mof W T) T H d v) : SR K (setE ρ i (some (.p d))) W T (σ.set i (some v)) H ts := by
  refine ⟨by rw [List.length_set, setE_len]; exact s.ls, by rw [setE_len]; exact s.lw, fun j r hj => ?_, s.nd, s.nT, s.lv, s.tin⟩
  rw [getE_set] at hj
  split at hj
  · rename_i hc
    obtain ⟨rfl, hi⟩ := hc
    cases hj
    have hw : j < W.length := Nat.lt_of_lt_of_le hi s.lw
    exact ⟨v, W[j], by rw [List.getElem?_set_self (by rw [s.ls]; exact hi)], List.getElem?_eq_getElem hw, h⟩
  · rename_i hc
    obtain ⟨u, A, h1, h2, h3⟩ := s.slot j r hj
    refine ⟨u, A, ?_, h2, h3⟩
    by_cases e : i = j
    · subst e
      have hn : ¬ i < σ.length := fun z => hc ⟨rfl, by rw [← s.ls]; exact z⟩
      rw [List.getElem?_eq_none (by omega)] at h1
      cases h1
    · rw [List.getElem?_set_ne e]; exact h1
theorem SR.wipe (s : SR K ρ W T σ H ts) (vs : List Nat) : SR K (wipeE ρ vs) W T (wipe σ vs) H ts := by
  refine ⟨by rw [wipe_length, wipeE_len]; exact s.ls, by rw [wipeE_len]; exact s.lw, fun j r hj => ?_, s.nd, s.nT, s.lv, s.tin⟩
  obtain ⟨h1, h2⟩ := wipeE_get hj
  obtain ⟨u, A, h3, h4, h5⟩ := s.slot j r h1
  exact ⟨u, A, by rw [wipe_at, if_neg h2]; exact h3, h4, h5⟩
theorem flat_app {B : List Addr} : (W ++ [B]).flatten = W.flatten ++ B := by simp
theorem Mof_app {B : List Addr} {a : Addr} : Mof (W ++ [B]) T a ↔ (Mof W T a ∨ a ∈ B) := by
  unfold Mof
  rw [flat_app, List.mem_append]
  constructor
  · rintro (h | h | h)
    · exact .inl (.inl h)
    · exact .inl (.inr h)
    · exact .inr h
  · rintro ((h | h) | h)
    · exact .inl h
    · exact .inr (.inl h)
    · exact .inr (.inr h)
/-- some new lists more, that nobody sees -/
theorem SR.ext (s : SR K ρ W T σ H ts) (st : Step T H H1 ts1) {B : List Addr} (hB : ∀ b ∈ B, H b = none ∧ T ≠ some b ∧ ∃ vs, H1 b = some (.lst vs)) (nd : B.Nodup) : SR K ρ (W ++ [B]) T σ H1 ts1 := by
  have s1 := s.step st
  refine ⟨s.ls, by rw [List.length_append]; exact Nat.le_trans s.lw (Nat.le_add_right _ _), fun i r h => ?_, ?_, fun a ha => ?_, fun a ha => ?_, st.tin⟩
  · obtain ⟨v, A, h1, h2, h3⟩ := s.slot i r h
    refine ⟨v, A, h1, by rw [List.getElem?_append_left (List.getElem?_eq_some_iff.mp h2).1]; exact h2, h3.imp (fun a o g n => ⟨st.keep a o g fun t => n (.inl t), fun z => ?_⟩) fun a ha o g => st.keep a o g (s.nT a (mem_flat h2 ha))⟩
    rcases Mof_app.mp z with z | z
    · exact n z
    · rw [(hB a z).1] at g; cases g
  · rw [flat_app, List.nodup_append]
    refine ⟨s.nd, nd, fun a ha b hb e => ?_⟩
    subst e
    obtain ⟨vs, g⟩ := s.lv a ha
    rw [(hB a hb).1] at g; cases g
  · rw [flat_app, List.mem_append] at ha
    rcases ha with ha | ha
    · exact s.nT a ha
    · exact (hB a ha).2.1
  · rw [flat_app, List.mem_append] at ha
    rcases ha with ha | ha
    · exact s1.lv a ha
    · exact (hB a ha).2.2
end

/-! ### targets -/
def gNms : List Nat → TGs
  | [] => gNil
  | i :: is => gCons (gName i) (gNms is)
def tG (K : PySem.W.Frag) : Tg → TG
  | .one i => gName i
  | .many is => gTup K is.length (gNms is)
def tgI : Tg → List Nat
  | .one i => [i]
  | .many is => is
section
variable {K : PySem.W.Frag} {F : FT} {ρ ρ1 : Env} {W : List (List Addr)} {T : Option Addr} {σ : L2.St} {H H1 : Hp} {ts ts1 : Tin} {Q : VK} {a b c t : Tm}
theorem setEs_ok : ∀ {is : List Nat} {ds : List D} {vs : List V} {ρ ρ1 : Env} {σ : L2.St} {P : L2.St → Hp → Prop}, SR K ρ W T σ H ts → Rps K (Mof W T) T H ds vs → setEs ρ is ds = some ρ1 →
    (∀ σ2, σ2.length = σ.length → (∀ j, j ∉ is → σ2[j]? = σ[j]?) → SR K ρ1 W T σ2 H ts → P σ2 H) → gNms is vs σ H P
  | [], [], vs, ρ, ρ1, σ, P, s, r, e, k => by
    simp only [setEs, Option.some.injEq] at e
    subst e
    have ev : vs = [] := r
    exact ⟨ev, k σ rfl (fun _ _ => rfl) s⟩
  | [], d :: ds, vs, ρ, ρ1, σ, P, s, r, e, k => by simp [setEs] at e
  | i :: is, [], vs, ρ, ρ1, σ, P, s, r, e, k => by simp [setEs] at e
  | i :: is, d :: ds, vs, ρ, ρ1, σ, P, s, ⟨v, r, ev, q, t⟩, e, k => by
    subst ev
    refine ⟨v, r, rfl, setEs_ok (s.set q) t e fun σ2 hl ho s2 => k σ2 (by rw [hl, List.length_set]) (fun j hj => ?_) s2⟩
    simp only [List.mem_cons, not_or] at hj
    rw [ho j hj.2, List.getElem?_set_ne (fun z => hj.1 z.symm)]
theorem setTg_ok {tg : Tg} {d : D} {x : V} {P : L2.St → Hp → Prop} (s : SR K ρ W T σ H ts) (r : Rp K (Mof W T) T H d x) (e : setTg ρ tg d = some ρ1)
    (k : ∀ σ2, σ2.length = σ.length → (∀ j, j ∉ tgI tg → σ2[j]? = σ[j]?) → SR K ρ1 W T σ2 H ts → P σ2 H) : tG K tg x σ H P := by
  cases tg with
  | one i =>
    simp only [setTg, Option.some.injEq] at e
    subst e
    exact k _ (by rw [List.length_set]) (fun j hj => by
      have hj2 : ¬ j = i := by simpa [tgI] using hj
      rw [List.getElem?_set_ne (fun z => hj2 z.symm)]) (s.set r)
  | many is =>
    cases d <;> simp only [setTg, reduceCtorEq] at e
    case tup ds =>
    obtain ⟨p, vs, rfl, g, m, l, q⟩ := r
    refine ⟨p, vs, rfl, SqT.of g, ?_, setEs_ok s q e k⟩
    rw [q.length]
    have len : ∀ {is : List Nat} {ds : List D} {ρ ρ1 : Env}, setEs ρ is ds = some ρ1 → ds.length = is.length := by
      intro is
      induction is with
      | nil => intro ds ρ ρ1 e; cases ds <;> simp [setEs] at e ⊢
      | cons i is ih =>
        intro ds ρ ρ1 e
        cases ds with
        | nil => simp [setEs] at e
        | cons d ds => simp [ih (show setEs _ is ds = some ρ1 from e)]
    exact len e

/-! ### list comprehensions -/
/-- what the new list holds so far -/
def AccR (K : PySem.W.Frag) (k : Bool) (M : Addr → Prop) (T : Option Addr) (H : Hp) (rs : List R) (acc : List V) (bs : List Addr) : Prop :=
  match k with
  | false => bs = [] ∧ Rps K M T H (rs.map R.fz) acc
  | true => acc = bs.map .ref ∧ ∃ xss, allO1 rs = some xss ∧ Paired (fun (b : Addr) (xs : List D) => ∃ vs, H b = some (.lst vs) ∧ vs.length ≤ LIM ∧ Rps K M T H xs vs) bs xss
theorem allO1_snoc : ∀ {rs : List R} {xss : List (List D)} {ys : List D}, allO1 rs = some xss → allO1 (rs ++ [.o1 ys]) = some (xss ++ [ys])
  | [], xss, ys, h => by
    simp only [allO1, Option.some.injEq] at h
    subst h
    rfl
  | r :: rs, xss, ys, h => by
    cases r with
    | o1 xs =>
      cases e : allO1 rs with
      | none => simp [allO1, e] at h
      | some zss =>
        simp only [allO1, e, Option.some.injEq] at h
        subst h
        simp [allO1, allO1_snoc e]
    | p d => simp [allO1] at h
    | o2 xs => simp [allO1] at h
theorem allO1_mem : ∀ {rs : List R} {xss : List (List D)}, allO1 rs = some xss → ∀ r ∈ rs, ∃ ys, r = .o1 ys
  | [], _, _, r, hr => by simp at hr
  | q :: rs, xss, h, r, hr => by
    cases q with
    | o1 xs =>
      cases e : allO1 rs with
      | none => simp [allO1, e] at h
      | some zss =>
        rcases List.mem_cons.mp hr with z | z
        · exact ⟨xs, z⟩
        · exact allO1_mem e r z
    | p d => simp [allO1] at h
    | o2 xs => simp [allO1] at h
theorem Paired.snoc {α β : Type} {G : α → β → Prop} : ∀ {l : List α} {m : List β} {a : α} {b : β}, Paired G l m → G a b → Paired G (l ++ [a]) (m ++ [b])
  | _, _, _, _, .nil, h => .cons h .nil
  | _, _, _, _, .cons r t, h => .cons r (Paired.snoc t h)
theorem AccR.imp {k : Bool} {M M' : Addr → Prop} {H H1 : Hp} {rs : List R} {acc : List V} {bs : List Addr} (h : AccR K k M T H rs acc bs) (hi : ∀ a o, H a = some o → ¬ M a → H1 a = some o ∧ ¬ M' a) (hb : ∀ b ∈ bs, ∀ o, H b = some o → H1 b = some o) : AccR K k M' T H1 rs acc bs := by
  cases k with
  | false => exact ⟨h.1, Rps.imp hi h.2⟩
  | true =>
    obtain ⟨h1, xss, h2, h3⟩ := h
    exact ⟨h1, xss, h2, Paired.map2 h3 fun b hb' xs ⟨vs, g, l, q⟩ => ⟨vs, hb b hb' _ g, l, Rps.imp hi q⟩⟩
theorem AccR.len {k : Bool} {M : Addr → Prop} {H : Hp} {rs : List R} {acc : List V} {bs : List Addr} (h : AccR K k M T H rs acc bs) : acc.length = rs.length := by
  cases k with
  | false => have := h.2.length; simpa using this
  | true =>
    obtain ⟨h1, xss, h2, h3⟩ := h
    have e1 := Paired.length h3
    have e2 : ∀ {rs : List R} {xss : List (List D)}, allO1 rs = some xss → xss.length = rs.length := by
      intro rs
      induction rs with
      | nil => intro xss h; simp only [allO1, Option.some.injEq] at h; subst h; rfl
      | cons r rs ih =>
        intro xss h
        cases r with
        | o1 xs =>
          cases e : allO1 rs with
          | none => simp [allO1, e] at h
          | some zss =>
            simp only [allO1, e, Option.some.injEq] at h
            subst h
            simp [ih e]
        | p d => simp [allO1] at h
        | o2 xs => simp [allO1] at h
    have e3 := e2 h2
    rw [h1, List.length_map]
    omega
/-- the state of a comprehension: st from where it began (its source stands) to here; the new list D, the lists in it bs -/
structure LcI (K : PySem.W.Frag) (k : Bool) (W : List (List Addr)) (T : Option Addr) (Dn : Addr) (H1 H : Hp) (ts : Tin) (rs : List R) (acc : List V) (bs : List Addr) : Prop where
  st : Step T H1 H ts
  at_ : H Dn = some (.lst acc)
  fr : ∀ b ∈ Dn :: bs, H1 b = none ∧ T ≠ some b ∧ ∃ vs, H b = some (.lst vs)
  nd : (Dn :: bs).Nodup
  acc_ : AccR K k (Mof (W ++ [Dn :: bs]) T) T H rs acc bs
theorem LcI.step {k : Bool} {Dn : Addr} {H1 H2 H : Hp} {ts2 : Tin} {rs : List R} {acc : List V} {bs : List Addr} (h : LcI K k W T Dn H1 H ts rs acc bs) (s : Step T H H2 ts2) : LcI K k W T Dn H1 H2 ts2 rs acc bs :=
  ⟨h.st.trans s, s.keep _ _ h.at_ (h.fr Dn (by simp)).2.1, fun b hb => by
    obtain ⟨x, y, vs, z⟩ := h.fr b hb
    exact ⟨x, y, vs, s.keep b _ z y⟩, h.nd, h.acc_.imp (fun a o g n => ⟨s.keep a o g fun t => n (.inl t), n⟩) fun b hb o g => s.keep b o g (h.fr b (by simp [hb])).2.1⟩
/-- one more is put in -/
theorem LcI.put {k : Bool} {Dn : Addr} {H1 H2 H : Hp} {ts2 : Tin} {rs : List R} {acc : List V} {bs : List Addr} {y : V} {r : R} {A : List Addr} (h : LcI K k W T Dn H1 H ts rs acc bs) (s : Step T H H2 ts2) (re : RE K (Mof (W ++ [Dn :: bs]) T) T H H2 y r A)
    (hM : ∀ a, Mof (W ++ [Dn :: bs]) T a → H a ≠ none) (hk : k = true → ∃ ys, r = .o1 ys) : ∃ bs', LcI K k W T Dn H1 (upd H2 Dn (.lst (acc ++ [y]))) ts2 (rs ++ [r]) (acc ++ [y]) bs' := by
  have h2 := h.step s
  have hD1 : H1 Dn = none := (h.fr Dn (by simp)).1
  have hDT : T ≠ some Dn := (h.fr Dn (by simp)).2.1
  have keepD : ∀ a o, H2 a = some o → a ≠ Dn → upd H2 Dn (.lst (acc ++ [y])) a = some o := fun a o g n => by rw [upd_ne n]; exact g
  have st : Step T H1 (upd H2 Dn (.lst (acc ++ [y]))) ts2 := by
    refine ⟨fun a o g n => keepD a o (h2.st.keep a o g n) fun z => ?_, ?_⟩
    · rw [z, hD1] at g; cases g
    · have t := h2.st.tin
      cases hT : T with
      | none => trivial
      | some b =>
        rw [hT] at t hDT
        exact ⟨keepD b _ t.1 fun z => hDT (by rw [z]), t.2⟩
  have inD : Mof (W ++ [Dn :: bs]) T Dn := Mof_app.mpr (.inr (by simp))
  have up : ∀ a o, H2 a = some o → ¬ Mof (W ++ [Dn :: bs]) T a → upd H2 Dn (.lst (acc ++ [y])) a = some o ∧ ¬ Mof (W ++ [Dn :: bs]) T a := fun a o g n => ⟨keepD a o g fun z => n (by rw [z]; exact inD), n⟩
  cases k with
  | false =>
    have e : bs = [] := h.acc_.1
    subst e
    refine ⟨[], st, upd_same, fun b hb => ?_, h.nd, rfl, ?_⟩
    · have e : b = Dn := by simpa using hb
      subst e
      exact ⟨hD1, hDT, _, upd_same⟩
    · rw [List.map_append]
      refine Rps.append (Rps.imp up h2.acc_.2) (Rps.one (Rp.imp up (re.fz hM)))
  | true =>
    obtain ⟨ys, rfl⟩ := hk rfl
    obtain ⟨b, vs, rfl, eA, g, l, q⟩ := re.sl
    subst eA
    obtain ⟨hbn, hbT, _⟩ := re.fr b (by simp)
    have hbD : b ≠ Dn := fun z => by
      have e := h.at_
      rw [← z, hbn] at e; cases e
    have hbs : b ∉ bs := fun z => by
      obtain ⟨_, _, ws, e⟩ := h.fr b (by simp [z])
      rw [hbn] at e; cases e
    have hb1 : H1 b = none := h.st.free hbn
    have upB : ∀ a o, H a = some o → ¬ Mof (W ++ [Dn :: bs]) T a → upd H2 Dn (.lst (acc ++ [V.ref b])) a = some o ∧ ¬ Mof (W ++ [Dn :: (bs ++ [b])]) T a := fun a o ga n => by
      refine ⟨keepD a o (s.keep a o ga fun t => n (.inl t)) fun z => n (by rw [z]; exact inD), fun z => ?_⟩
      rcases Mof_app.mp z with z | z
      · exact n (Mof_app.mpr (.inl z))
      · have z' : a = Dn ∨ a ∈ bs ∨ a = b := by simpa using z
        rcases z' with z | z | z
        · exact n (by rw [z]; exact inD)
        · exact n (Mof_app.mpr (.inr (by simp [z])))
        · rw [z, hbn] at ga; cases ga
    refine ⟨bs ++ [b], st, upd_same, fun c hc => ?_, ?_, ?_⟩
    · have hc' : c = Dn ∨ c ∈ bs ∨ c = b := by simpa using hc
      rcases hc' with z | z | z
      · subst z; exact ⟨hD1, hDT, _, upd_same⟩
      · obtain ⟨x, y, ws, e⟩ := h2.fr c (by simp [z])
        exact ⟨x, y, ws, keepD c _ e fun z' => by
          have nd := h.nd
          rw [z'] at z
          exact (List.nodup_cons.mp nd).1 z⟩
      · subst z; exact ⟨hb1, hbT, vs, keepD c _ g hbD⟩
    · have nd := List.nodup_cons.mp h.nd
      refine List.nodup_cons.mpr ⟨fun z => ?_, List.nodup_append.mpr ⟨nd.2, by simp, fun x hx y hy e => ?_⟩⟩
      · have z' : Dn ∈ bs ∨ Dn = b := by simpa using z
        rcases z' with z | z
        · exact nd.1 z
        · exact hbD z.symm
      · have e2 : y = b := by simpa using hy
        subst e
        subst e2
        exact hbs hx
    · obtain ⟨e1, xss, e2, e3⟩ := h.acc_
      refine ⟨by rw [e1]; simp, xss ++ [ys], allO1_snoc e2, Paired.snoc (Paired.map2 e3 fun c hc xs ⟨ws, gc, lc, qc⟩ => ⟨ws, ?_, lc, Rps.imp upB qc⟩) ⟨vs, keepD b _ g hbD, l, ?_⟩⟩
      · have hcT := (h.fr c (by simp [hc])).2.1
        exact keepD c _ (s.keep c _ gc hcT) fun z => (List.nodup_cons.mp h.nd).1 (by rw [← z]; exact hc)
      · refine Rps.imp (fun a o ga n => ⟨keepD a o ga fun z => n (.inl (by rw [z]; exact inD)), fun z => n ?_⟩) q
        rcases Mof_app.mp z with z | z
        · exact .inl (Mof_app.mpr (.inl z))
        · have z' : a = Dn ∨ a ∈ bs ∨ a = b := by simpa using z
          rcases z' with z | z | z
          · exact .inl (by rw [z]; exact inD)
          · exact .inl (Mof_app.mpr (.inr (by simp [z])))
          · exact .inr (by simp [z])
end
end Lt

namespace Lt
open PySem PySem.Spec PyProof.Rows L2

/-! ### the list comprehension -/
/-- one turn -/
def lcF (F : FT) (own : List Nat) (tg : Tg) (cd elt : Tm) (ρ : Env) : D → Ev (Option R) := fun x ts =>
  match setTg (wipeE ρ own) tg x with
  | none => none
  | some ρ1 => match ev F cd ρ1 ts with
    | some (.p (.bl true), ts2) => match ev F elt ρ1 ts2 with
      | some (r, ts3) => some (some r, ts3)
      | none => none
    | some (.p (.bl false), ts2) => some (none, ts2)
    | _ => none
theorem ev_lc {F : FT} {own : List Nat} {tg : Tg} {it cd elt : Tm} {k : Bool} {ρ : Env} {ts ts' : Tin} {r : R} (e : ev F (.lc own tg it cd elt k) ρ ts = some (r, ts')) :
    ∃ xs ts1 rs, evI F it ρ ts = some (xs, ts1) ∧ compL (lcF F own tg cd elt ρ) xs ts1 = some (rs, ts') ∧ joinR k rs = some r := by
  simp only [ev] at e
  split at e
  · rename_i xs ts1 e1
    split at e
    · rename_i rs ts2 e2
      obtain ⟨r', e3, e4⟩ := Option.map_eq_some_iff.mp e
      simp only [Prod.mk.injEq] at e4
      obtain ⟨rfl, rfl⟩ := e4
      exact ⟨xs, ts1, rs, e1, e2, e3⟩
    · simp at e
  · simp at e
theorem compL_cons {f : D → Ev (Option R)} {x : D} {xs : List D} {ts ts' : Tin} {rs : List R} (e : compL f (x :: xs) ts = some (rs, ts')) :
    ∃ o ts1 rest, f x ts = some (o, ts1) ∧ compL f xs ts1 = some (rest, ts') ∧ rs = o.toList ++ rest := by
  simp only [compL] at e
  split at e
  · simp at e
  · rename_i o ts1 e1
    split at e
    · simp at e
    · rename_i rest ts2 e2
      cases o with
      | none =>
        simp only [Option.some.injEq, Prod.mk.injEq] at e
        obtain ⟨rfl, rfl⟩ := e
        exact ⟨none, ts1, rest, e1, e2, rfl⟩
      | some r =>
        simp only [Option.some.injEq, Prod.mk.injEq] at e
        obtain ⟨rfl, rfl⟩ := e
        exact ⟨some r, ts1, rest, e1, e2, rfl⟩
section
variable {K : PySem.W.Frag} {F : FT} {σ : L2.St} {H : Hp} {Q : VK} {a b c t it cd elt : Tm} {own : List Nat} {tg : Tg}
theorem wipe_tg {σ2 : L2.St} (hl : σ2.length = (wipe σ own).length) (hown : ∀ j, j ∈ tgI tg → j ∈ own) (ho : ∀ j, j ∉ tgI tg → σ2[j]? = (wipe σ own)[j]?) : wipe σ2 own = wipe σ own :=
  wipe_again (by rw [hl, wipe_length]) fun j hj => by
    rw [ho j fun z => hj (hown j z), wipe_at, if_neg hj]
theorem LcI.begin {ρ : Env} {W : List (List Addr)} {T : Option Addr} {H1 : Hp} {ts1 : Tin} {k : Bool} {Dn : Addr} (s : SR K ρ W T σ H1 ts1) (hD : H1 Dn = none) : LcI K k W T Dn H1 (upd H1 Dn (.lst [])) ts1 [] [] [] := by
  refine ⟨.new s.tin hD, upd_same, fun b hb => ?_, by simp, ?_⟩
  · have e : b = Dn := by simpa using hb
    subst e
    exact ⟨hD, s.tin.ne hD, [], upd_same⟩
  · cases k
    · exact ⟨rfl, rfl⟩
    · exact ⟨rfl, [], rfl, .nil⟩
theorem LcI.fin {W : List (List Addr)} {T : Option Addr} {H1 H2 : Hp} {ts2 : Tin} {k : Bool} {Dn : Addr} {rs : List R} {acc : List V} {bs : List Addr} {r : R} (h : LcI K k W T Dn H1 H2 ts2 rs acc bs) (hl : rs.length ≤ LIM) (e : joinR k rs = some r) : RE K (Mof W T) T H1 H2 (.ref Dn) r (Dn :: bs) := by
  have hal := h.acc_.len
  have im : ∀ a, (Mof W T a ∨ a ∈ Dn :: bs) → Mof (W ++ [Dn :: bs]) T a := fun a z => Mof_app.mpr z
  refine ⟨h.fr, h.nd, ?_⟩
  cases k with
  | false =>
    simp only [joinR, Bool.false_eq_true, if_false, Option.some.injEq] at e
    subst e
    obtain ⟨e1, q⟩ := h.acc_
    subst e1
    exact ⟨Dn, acc, rfl, rfl, h.at_, by rw [hal]; exact hl, Rps.imp (fun a o g n => ⟨g, fun z => n (im a z)⟩) q⟩
  | true =>
    simp only [joinR, if_true] at e
    obtain ⟨xss, e1, rfl⟩ := Option.map_eq_some_iff.mp e
    obtain ⟨e2, xss', e3, q⟩ := h.acc_
    rw [e1] at e3
    cases e3
    refine ⟨Dn, bs, rfl, rfl, by rw [← e2]; exact h.at_, by rw [e2, List.length_map] at hal; rw [hal]; exact hl, Paired.map2 q fun b hb xs ⟨vs, g, l, q⟩ => ⟨vs, g, l, Rps.imp (fun a o g n => ⟨g, fun z => n (im a z)⟩) q⟩⟩
/-- what was looked at stays -/
theorem LcI.looks {W : List (List Addr)} {T : Option Addr} {H1 H2 : Hp} {ts2 : Tin} {k : Bool} {Dn : Addr} {rs : List R} {acc : List V} {bs : List Addr} {d : D} {v : V} (h : LcI K k W T Dn H1 H2 ts2 rs acc bs) (q : Rp K (Mof W T) T H1 d v) : Rp K (Mof (W ++ [Dn :: bs]) T) T H2 d v :=
  Rp.imp (fun a o g n => ⟨h.st.keep a o g fun z => n (.inl z), fun z => by
    rcases Mof_app.mp z with z | z
    · exact n z
    · rw [(h.fr a z).1] at g; cases g⟩) q
theorem step_yld {T : Option Addr} {H H' : Hp} {ts : Tin} (t : TinAt T H ts) (h : H' = H ∨ ∃ p o, H p = none ∧ H' = L2.upd H p o) : Step T H H' ts := by
  rcases h with rfl | ⟨p, o, h1, rfl⟩
  · exact .refl t
  · exact .new t h1
theorem i_lc {k : Bool} (hown : ∀ j, j ∈ tgI tg → j ∈ own) (h : tE K F (.lc own tg it cd elt k) σ H Q) : tLc (tI K F it) (tG K tg) (tT K F cd) (tE K F elt) own σ H Q := by
  obtain ⟨ρ, W, T, ts, r, ts', s, e, kk⟩ := h
  obtain ⟨xs, ts1, rs, e1, e2, e3⟩ := ev_lc e
  refine ⟨ρ, W, T, ts, xs, ts1, s, e1, fun J Z H1 st1 itr hZ Dn hD => ?_⟩
  have s1 := s.step st1
  refine ⟨fun i m Hh => m = xs.length - i ∧ i ≤ xs.length ∧ ∃ rs1 tsi acc bs rest, LcI K k W T Dn H1 Hh tsi rs1 acc bs ∧ compL (lcF F own tg cd elt ρ) (xs.drop i) tsi = some (rest, ts') ∧ rs1 ++ rest = rs ∧ rs1.length ≤ i,
    ⟨xs.length, by simp, Nat.zero_le _, [], ts1, [], [], rs, .begin s1 hD, by simpa using e2, rfl, Nat.le_refl _⟩, ?_⟩
  rintro i m Hh ⟨rfl, hi, rs1, tsi, acc, bs, rest, L, e4, e5, hl⟩
  by_cases hlt : i < xs.length
  · have hx : xs[i]? = some xs[i] := by simp [hlt]
    rw [List.drop_eq_getElem_cons hlt] at e4
    obtain ⟨o, tsj, rest', e6, e7, rfl⟩ := compL_cons e4
    refine .inr ⟨itr.goes _ _ _ i (fun p hp => L.looks (hZ p hp)) hlt, fun H' => _, fun H' z => ⟨xs.length - (i + 1), by omega, z⟩, fun y H' hy => ?_⟩
    have s2 : SR K ρ (W ++ [Dn :: bs]) T σ Hh tsi := s1.ext L.st L.fr L.nd
    obtain ⟨hH', hr⟩ := itr.yields _ _ _ i y H' _ s2.live (fun p hp => L.looks (hZ p hp)) hx hy
    have sty := step_yld L.st.tin hH'
    have L2 := L.step sty
    have s3 := (s2.step sty).wipe own
    simp only [lcF] at e6
    split at e6
    · simp at e6
    · rename_i ρ1 e8
      refine setTg_ok s3 hr e8 fun σ2 hl2 ho s4 => ⟨wipe_tg hl2 hown ho, ?_⟩
      split at e6
      · rename_i tsc e9
        refine ⟨ρ1, _, T, tsi, true, tsc, s4, e9, fun H3 st3 => ?_⟩
        have L3 := L2.step st3
        have s5 := s4.step st3
        split at e6
        · rename_i r1 tsd e10
          simp only [Option.some.injEq, Prod.mk.injEq] at e6
          obtain ⟨rfl, rfl⟩ := e6
          show (if true = true then _ else _)
          rw [if_pos rfl]
          refine ⟨ρ1, _, T, tsc, r1, tsd, s5, e10, fun z H4 A st4 re4 => ?_⟩
          have L4 := L3.step st4
          obtain ⟨bs', L5⟩ := L3.put st4 re4 s5.live fun hk => by
            subst hk
            simp only [joinR, if_true] at e3
            obtain ⟨xss, e11, _⟩ := Option.map_eq_some_iff.mp e3
            exact allO1_mem e11 r1 (by rw [← e5]; simp)
          refine ⟨acc, L4.at_, ?_, rfl, by omega, rs1 ++ [r1], tsd, _, bs', rest', L5, e7, by rw [← e5]; simp, by simp; omega⟩
          rw [L.acc_.len]
          have := itr.few
          have := sizeLim
          omega
        · simp at e6
      · rename_i tsc e9
        refine ⟨ρ1, _, T, tsi, false, tsc, s4, e9, fun H3 st3 => ?_⟩
        simp only [Option.some.injEq, Prod.mk.injEq] at e6
        obtain ⟨rfl, rfl⟩ := e6
        show (if false = true then _ else _)
        rw [if_neg (by simp)]
        exact ⟨rfl, by omega, rs1, tsc, acc, bs, rest', L2.step st3, e7, by rw [← e5]; simp, by omega⟩
      · simp at e6
  · have hi2 : i = xs.length := by omega
    subst hi2
    rw [List.drop_length] at e4
    simp only [compL, Option.some.injEq, Prod.mk.injEq] at e4
    obtain ⟨rfl, rfl⟩ := e4
    have e5' : rs1 = rs := by simpa using e5
    subst e5'
    refine .inl ⟨itr.stops _ _ _ fun p hp => L.looks (hZ p hp), kk _ Hh (Dn :: bs) (st1.trans L.st) ((L.fin ?_ e3).from_ st1)⟩
    exact Nat.le_trans hl itr.few
theorem i_yes {Q : Bool → Hp → Prop} (h : tT K F (.bl true) σ H Q) : tYes σ H Q := by
  obtain ⟨ρ, W, T, ts, c, ts', s, e, k⟩ := h
  simp only [ev, Option.some.injEq, Prod.mk.injEq, R.p.injEq, D.bl.injEq] at e
  obtain ⟨rfl, rfl⟩ := e
  exact k H (.refl s.tin)
end
end Lt

namespace Lt
open PySem PySem.Spec PyProof.Rows L2

/-! ### two loops in one comprehension -/
theorem setE_wipe {y : Option R} : ∀ {ρ : Env} {j : Nat}, setE (wipeE ρ [j]) j y = setE ρ j y
  | [], j => by simp [wipeE, setE]
  | x :: r, 0 => by simp [wipeE, setE]
  | x :: r, j + 1 => by
    have h := setE_wipe (y := y) (ρ := r) (j := j)
    simp only [wipeE] at h
    simp only [wipeE, List.set_cons_succ, setE, h]
def l2F (F : FT) (own : List Nat) (i j : Nat) (elt : Tm) (ρ : Env) : D → D → Ev R := fun x y ts => ev F elt (setE (setE (wipeE ρ own) i (some (.p x))) j (some (.p y))) ts
def l2G (F : FT) (own : List Nat) (i : Nat) (jt : Tm) (ρ : Env) : D → Ev (List D) := fun x ts => evI F jt (setE (wipeE ρ own) i (some (.p x))) ts
def l2H (f : D → D → Ev R) (x : D) : D → Ev (Option R) := fun y ts => match f x y ts with
  | some (r, ts') => some (some r, ts')
  | none => none
theorem ev_lc2 {F : FT} {own : List Nat} {i j : Nat} {it jt elt : Tm} {ρ : Env} {ts ts' : Tin} {r : R} (e : ev F (.lc2 own i it j jt elt) ρ ts = some (r, ts')) :
    ∃ xs ts1 rs, evI F it ρ ts = some (xs, ts1) ∧ lc2L (l2F F own i j elt ρ) (l2G F own i jt ρ) xs ts1 = some (rs, ts') ∧ rs.length ≤ LIM ∧ r = .o1 (rs.map R.fz) := by
  simp only [ev] at e
  split at e
  · rename_i xs ts1 e1
    split at e
    · rename_i rs ts2 e2
      split at e
      · rename_i hl
        simp only [Option.some.injEq, Prod.mk.injEq] at e
        obtain ⟨rfl, rfl⟩ := e
        exact ⟨xs, ts1, rs, e1, e2, hl, rfl⟩
      · simp at e
    · simp at e
  · simp at e
theorem lc2L_cons {f : D → D → Ev R} {g : D → Ev (List D)} {x : D} {xs : List D} {ts ts' : Tin} {rs : List R} (e : lc2L f g (x :: xs) ts = some (rs, ts')) :
    ∃ ys ts1 rs1 ts2 rs2, g x ts = some (ys, ts1) ∧ compL (l2H f x) ys ts1 = some (rs1, ts2) ∧ lc2L f g xs ts2 = some (rs2, ts') ∧ rs = rs1 ++ rs2 := by
  simp only [lc2L] at e
  split at e
  · simp at e
  · rename_i ys ts1 e1
    split at e
    · simp at e
    · rename_i rs1 ts2 e2
      split at e
      · simp at e
      · rename_i rs2 ts3 e3
        simp only [Option.some.injEq, Prod.mk.injEq] at e
        obtain ⟨rfl, rfl⟩ := e
        exact ⟨ys, ts1, rs1, ts2, rs2, e1, e2, e3, rfl⟩
section
variable {K : PySem.W.Frag} {F : FT} {σ : L2.St} {H : Hp} {Q : VK} {a b c t it jt cd elt kx vx : Tm} {own : List Nat} {tg : Tg}
theorem yes_if {P N : Hp → Prop} (h : P H) : tYes σ H (fun b H3 => if b = true then P H3 else N H3) := by
  show (if true = true then P H else N H)
  rw [if_pos rfl]
  exact h
theorem i_lc2 {i j : Nat} (hi : i ∈ own) (hj : j ∈ own) (h : tE K F (.lc2 own i it j jt elt) σ H Q) : tLc2 (tI K F it) (gName i) tYes (tI K F jt) (gName j) tYes (tE K F elt) own [j] σ H Q := by
  obtain ⟨ρ, W, T, ts, r, ts', s, e, kk⟩ := h
  obtain ⟨xs, ts1, rs, e1, e2, hlim, rfl⟩ := ev_lc2 e
  refine ⟨ρ, W, T, ts, xs, ts1, s, e1, fun J Z H1 st1 itr hZ Dn hD => ?_⟩
  have s1 := s.step st1
  refine ⟨fun n m Hh => m = xs.length - n ∧ n ≤ xs.length ∧ ∃ rs1 tsi acc rest, LcI K false W T Dn H1 Hh tsi rs1 acc [] ∧ lc2L (l2F F own i j elt ρ) (l2G F own i jt ρ) (xs.drop n) tsi = some (rest, ts') ∧ rs1 ++ rest = rs,
    ⟨xs.length, by simp, Nat.zero_le _, [], ts1, [], rs, .begin s1 hD, by simpa using e2, rfl⟩, ?_⟩
  rintro n m Hh ⟨rfl, hn, rs1, tsi, acc, rest, L, e4, e5⟩
  by_cases hlt : n < xs.length
  · have hx : xs[n]? = some xs[n] := by simp [hlt]
    rw [List.drop_eq_getElem_cons hlt] at e4
    obtain ⟨ys, ts2, rsi, ts3, rest', e6, e7, e8, rfl⟩ := lc2L_cons e4
    refine .inr ⟨itr.goes _ _ _ n (fun p hp => L.looks (hZ p hp)) hlt, fun H' => _, fun H' z => ⟨xs.length - (n + 1), by omega, z⟩, fun y H' hy => ?_⟩
    have s2 : SR K ρ (W ++ [Dn :: []]) T σ Hh tsi := s1.ext L.st L.fr L.nd
    obtain ⟨hH', hr⟩ := itr.yields _ _ _ n y H' _ s2.live (fun p hp => L.looks (hZ p hp)) hx hy
    have sty := step_yld L.st.tin hH'
    have L2 := L.step sty
    have s3 := (s2.step sty).wipe own
    have s4 := s3.set (i := i) hr
    refine ⟨wipe_again (by simp [wipe_length]) fun z hz => ?_, ?_⟩
    · have hiz : i ≠ z := fun q => hz (by rw [← q]; exact hi)
      rw [List.getElem?_set_ne hiz, wipe_at, if_neg hz]
    refine yes_if ?_
    refine ⟨_, _, T, tsi, ys, ts2, s4, e6, fun J1 Z1 H4 st4 itr1 hZ1 => ?_⟩
    have L4 := L2.step st4
    have s5 := s4.step st4
    refine ⟨fun n1 m1 Hg => m1 = ys.length - n1 ∧ n1 ≤ ys.length ∧ (∀ a o, H4 a = some o → ¬ Mof (W ++ [[Dn]]) T a → Hg a = some o) ∧ ∃ rs2 tsj acc2 rest2, LcI K false W T Dn H1 Hg tsj rs2 acc2 [] ∧ compL (l2H (l2F F own i j elt ρ) xs[n]) (ys.drop n1) tsj = some (rest2, ts3) ∧ rs2 ++ (rest2 ++ rest') = rs,
      ⟨ys.length, by simp, Nat.zero_le _, fun a o g _ => g, rs1, ts2, acc, rsi, L4, by simpa using e7, e5⟩, ?_⟩
    rintro n1 m1 Hg ⟨rfl, hn1, stay, rs2, tsj, acc2, rest2, L5, e9, e10⟩
    have hZ2 : ∀ p ∈ Z1, Rp K (Mof (W ++ [[Dn]]) T) T Hg p.2 p.1 := fun p hp => Rp.imp (fun a o g z => ⟨stay a o g z, z⟩) (hZ1 p hp)
    by_cases hlt1 : n1 < ys.length
    · have hy1 : ys[n1]? = some ys[n1] := by simp [hlt1]
      rw [List.drop_eq_getElem_cons hlt1] at e9
      obtain ⟨o, tsk, rest3, e11, e12, rfl⟩ := compL_cons e9
      simp only [l2H] at e11
      split at e11
      · rename_i r1 ts4 e13
        simp only [Option.some.injEq, Prod.mk.injEq] at e11
        obtain ⟨rfl, rfl⟩ := e11
        refine .inr ⟨itr1.goes _ _ _ n1 hZ2 hlt1, fun H' => _, fun H' z => ⟨ys.length - (n1 + 1), by omega, z⟩, fun y1 H5 hy5 => ?_⟩
        have s6 : SR K ρ (W ++ [[Dn]]) T σ Hg tsj := s1.ext L5.st L5.fr L5.nd
        obtain ⟨hH5, hr1⟩ := itr1.yields _ _ _ n1 y1 H5 _ s6.live hZ2 hy1 hy5
        have sty1 := step_yld L5.st.tin hH5
        have L6 := L5.step sty1
        have hrx : Rp K (Mof (W ++ [[Dn]]) T) T H5 xs[n] y := Rp.imp (fun a o g z => ⟨sty1.keep a o (stay a o (st4.keep a o g fun q => z (.inl q)) z) fun q => z (.inl q), z⟩) hr
        have s7 := ((((s6.step sty1).wipe own).set (i := i) hrx).wipe [j]).set (i := j) hr1
        rw [setE_wipe] at s7
        refine ⟨wipe_again (by simp [wipe_length]) fun z hz => ?_, ?_⟩
        · have hjz : j ≠ z := fun q => hz (by simp [q])
          rw [List.getElem?_set_ne hjz, wipe_at, if_neg hz]
        refine yes_if ?_
        refine ⟨_, _, T, tsj, r1, ts4, s7, e13, fun z H6 A st6 re6 => ?_⟩
        have L7 := L6.step st6
        have hb : ∃ bs', LcI K false W T Dn H1 (_root_.L2.upd H6 Dn (.lst (acc2 ++ [z]))) ts4 (rs2 ++ [r1]) (acc2 ++ [z]) bs' := L6.put st6 re6 s7.live fun q => by cases q
        obtain ⟨bs', L8⟩ := hb
        have hb0 : bs' = [] := L8.acc_.1
        subst hb0
        refine ⟨acc2, L7.at_, ?_, rfl, by omega, fun a o g q => ?_, rs2 ++ [r1], ts4, _, rest3, L8, e12, by rw [← e10]; simp⟩
        · rw [L5.acc_.len]
          have h1 := sizeLim
          have h2 : rs2.length ≤ rs.length := by rw [← e10]; simp
          omega
        · have haD : a ≠ Dn := fun w => q (Mof_app.mpr (.inr (by simp [w])))
          rw [upd_ne haD]
          exact st6.keep a o (sty1.keep a o (stay a o g q) fun w => q (.inl w)) fun w => q (.inl w)
      · simp at e11
    · have hi2 : n1 = ys.length := by omega
      subst hi2
      rw [List.drop_length] at e9
      simp only [compL, Option.some.injEq, Prod.mk.injEq] at e9
      obtain ⟨rfl, rfl⟩ := e9
      exact .inl ⟨itr1.stops _ _ _ hZ2, rfl, by omega, rs2, _, acc2, rest', L5, e8, by rw [← e10]; simp⟩
  · have hi2 : n = xs.length := by omega
    subst hi2
    rw [List.drop_length] at e4
    simp only [lc2L, Option.some.injEq, Prod.mk.injEq] at e4
    obtain ⟨rfl, rfl⟩ := e4
    have e5' : rs1 = rs := by simpa using e5
    subst e5'
    refine .inl ⟨itr.stops _ _ _ fun p hp => L.looks (hZ p hp), kk _ Hh [Dn] (st1.trans L.st) ((L.fin hlim rfl).from_ st1)⟩

/-! ### dicts -/
def dcF (F : FT) (own : List Nat) (tg : Tg) (kx vx : Tm) (ρ : Env) : D → Ev (Int × D) := fun x ts =>
  match setTg (wipeE ρ own) tg x with
  | none => none
  | some ρ1 => match ev F kx ρ1 ts with
    | some (.p (.int k), ts2) => match ev F vx ρ1 ts2 with
      | some (r, ts3) => if r.fz.nl then some ((k, r.fz), ts3) else none
      | none => none
    | _ => none
theorem ev_dc {own : List Nat} {tg : Tg} {ρ : Env} {ts ts' : Tin} {r : R} (e : ev F (.dc own tg it kx vx) ρ ts = some (r, ts')) :
    ∃ xs ts1 d, evI F it ρ ts = some (xs, ts1) ∧ dcL (dcF F own tg kx vx ρ) xs [] [] ts1 = some (d, ts') ∧ r = .p d := by
  simp only [ev] at e
  split at e
  · rename_i xs ts1 e1
    split at e
    · rename_i d ts2 e2
      simp only [Option.some.injEq, Prod.mk.injEq] at e
      obtain ⟨rfl, rfl⟩ := e
      exact ⟨xs, ts1, d, e1, e2, rfl⟩
    · simp at e
  · simp at e
mutual
theorem Rp.nlH {M M' : Addr → Prop} {T T' : Option Addr} {H H' : Hp} (h : ∀ a vs, H a = some (.tup vs) → H' a = some (.tup vs) ∧ ¬ M' a) : ∀ {d : D} {v : V}, d.nl = true → Rp K M T H d v → Rp K M' T' H' d v
  | .non, _, _, e => e
  | .bl _, _, _, e => e
  | .int _, _, _, e => e
  | .str _, _, _, e => e
  | .tup ds, _, n, ⟨a, vs, e, g, m, l, r⟩ => ⟨a, vs, e, (h a vs g).1, (h a vs g).2, l, Rps.nlH h (by simpa [D.nl] using n) r⟩
  | .lst _, _, n, _ => by simp [D.nl] at n
  | .dct _ _, _, n, _ => by simp [D.nl] at n
  | .tin, _, n, _ => by simp [D.nl] at n
  | .scr _, _, n, _ => by simp [D.nl] at n
theorem Rps.nlH {M M' : Addr → Prop} {T T' : Option Addr} {H H' : Hp} (h : ∀ a vs, H a = some (.tup vs) → H' a = some (.tup vs) ∧ ¬ M' a) : ∀ {ds : List D} {vs : List V}, D.nls ds = true → Rps K M T H ds vs → Rps K M' T' H' ds vs
  | [], _, _, e => e
  | d :: ds, _, n, ⟨v, r, e, q, t⟩ => by
    have n2 : d.nl = true ∧ D.nls ds = true := by simpa [D.nls] using n
    exact ⟨v, r, e, Rp.nlH h n2.1 q, Rps.nlH h n2.2 t⟩
end
theorem nls_mem : ∀ {ds : List D}, D.nls ds = true ↔ ∀ d ∈ ds, d.nl = true
  | [] => by simp [D.nls]
  | d :: ds => by simp [D.nls, nls_mem (ds := ds)]
theorem put_map {M : Addr → Prop} {T : Option Addr} {k : Int} {z : V} {d : D} (hz : Rp K M T H d z) : ∀ {kvs : List (Key × V)} {ks : List Int} {vs : List D}, kvs.map (·.1) = ks.map Sum.inl → Rps K M T H vs (kvs.map (·.2)) →
    Rps K M T H ((ks.zip vs).map fun kv => if kv.1 = k then d else kv.2) ((kvs.map fun kv => if kv.1 = Sum.inl k then (kv.1, z) else kv).map (·.2))
  | [], ks, vs, e, q => by
    have e1 : ks = [] := by
      cases ks with
      | nil => rfl
      | cons a r => simp at e
    subst e1
    exact rfl
  | p :: kvs, [], vs, e, q => by simp at e
  | p :: kvs, k0 :: ks, [], e, q => by simp [Rps] at q
  | p :: kvs, k0 :: ks, d0 :: vs, e, ⟨v, r, e1, q, t⟩ => by
    simp only [List.map_cons, List.cons.injEq] at e
    simp only [List.map_cons, List.cons.injEq] at e1
    obtain ⟨e2, e3⟩ := e
    obtain ⟨e4, e5⟩ := e1
    subst e4 e5
    refine ⟨_, _, rfl, ?_, put_map hz e3 t⟩
    simp only [e2, Sum.inl.injEq]
    split
    · exact hz
    · exact q
theorem put_ok {M : Addr → Prop} {T : Option Addr} {k : Int} {z : V} {d : D} {kvs : List (Key × V)} {ks : List Int} {vs : List D} (hz : Rp K M T H d z) (e : kvs.map (·.1) = ks.map Sum.inl) (q : Rps K M T H vs (kvs.map (·.2))) :
    (putK kvs (Sum.inl k) z).map (·.1) = (putD ks vs k d).1.map Sum.inl ∧ Rps K M T H (putD ks vs k d).2 ((putK kvs (Sum.inl k) z).map (·.2)) := by
  have hany : (kvs.any fun kv => decide (kv.1 = Sum.inl k)) = decide (k ∈ ks) := by
    have h1 : (kvs.any fun kv => decide (kv.1 = Sum.inl k)) = (kvs.map (·.1)).any fun x => decide (x = Sum.inl k) := by rw [List.any_map]; rfl
    rw [h1, e, List.any_map]
    rw [Bool.eq_iff_iff]
    simp [List.any_eq_true]
  unfold putK putD
  rw [hany]
  by_cases hk : k ∈ ks
  · rw [if_pos (by simpa using hk), if_pos hk]
    refine ⟨?_, put_map hz e q⟩
    rw [← e, List.map_map]
    apply List.map_congr_left
    intro p hp
    simp only [Function.comp]
    split <;> rfl
  · rw [if_neg (by simpa using hk), if_neg hk]
    exact ⟨by simp [e], by rw [List.map_append]; exact q.append (Rps.one hz)⟩
theorem putD_nl {k : Int} {d : D} {ks : List Int} {vs : List D} (hd : d.nl = true) (h : D.nls vs = true) : D.nls (putD ks vs k d).2 = true := by
  unfold putD
  split
  · rw [nls_mem] at h ⊢
    intro y hy
    simp only [List.mem_map] at hy
    obtain ⟨p, hp, rfl⟩ := hy
    split
    · exact hd
    · exact h _ (List.of_mem_zip hp).2
  · rw [nls_mem] at h ⊢
    intro y hy
    rcases List.mem_append.mp hy with z | z
    · exact h y z
    · rw [List.mem_singleton.mp z]; exact hd
theorem i_dc (hown : ∀ j, j ∈ tgI tg → j ∈ own) (h : tE K F (.dc own tg it kx vx) σ H Q) : tDc (tI K F it) (tG K tg) tYes (tE K F kx) (tE K F vx) own σ H Q := by
  obtain ⟨ρ, W, T, ts, r, ts', s, e, kk⟩ := h
  obtain ⟨xs, ts1, d, e1, e2, rfl⟩ := ev_dc e
  refine ⟨ρ, W, T, ts, xs, ts1, s, e1, fun J Z H1 st1 itr hZ Dn hD => ?_⟩
  have s1 := s.step st1
  have hDM : ¬ Mof W T Dn := fun z => s1.live Dn z hD
  have hDT : T ≠ some Dn := fun z => hDM (.inl z)
  have hUp : ∀ {Hh : Hp} {tsi : Tin} {kvs kvs' : List (Key × V)}, Step T H1 Hh tsi → Hh Dn = some (.dK kvs) → Step T H1 (L2.upd Hh Dn (.dK kvs')) tsi := fun {Hh tsi kvs kvs'} st g => by
    refine ⟨fun a o ga n => ?_, ?_⟩
    · rw [upd_ne fun z => by rw [z, hD] at ga; cases ga]
      exact st.keep a o ga n
    · have t := st.tin
      cases hT : T with
      | none => trivial
      | some b =>
        rw [hT] at t hDT
        exact ⟨by rw [upd_ne fun z => hDT (by rw [z])]; exact t.1, t.2⟩
  refine ⟨fun i m Hh => m = xs.length - i ∧ i ≤ xs.length ∧ ∃ tsi kvs ks vs, Step T H1 Hh tsi ∧ Hh Dn = some (.dK kvs) ∧ kvs.map (·.1) = ks.map Sum.inl ∧ Rps K (Mof W T) T Hh vs (kvs.map (·.2)) ∧ D.nls vs = true ∧ kvs.length ≤ i ∧ dcL (dcF F own tg kx vx ρ) (xs.drop i) ks vs tsi = some (d, ts'),
    ⟨xs.length, by simp, Nat.zero_le _, ts1, [], [], [], .new s1.tin hD, upd_same, rfl, rfl, rfl, Nat.le_refl _, by simpa using e2⟩, ?_⟩
  rintro i m Hh ⟨rfl, hi, tsi, kvs, ks, vs, st, hat, hk, hv, hn, hl, e4⟩
  have hZ1 : ∀ p ∈ Z, Rp K (Mof W T) T Hh p.2 p.1 := fun p hp => Rp.imp (fun a o g z => ⟨st.keep a o g fun q => z (.inl q), z⟩) (hZ p hp)
  have few := itr.few
  have sl := sizeLim
  by_cases hlt : i < xs.length
  · have hx : xs[i]? = some xs[i] := by simp [hlt]
    rw [List.drop_eq_getElem_cons hlt] at e4
    simp only [dcL] at e4
    split at e4
    · simp at e4
    · rename_i k dv tsj e5
      refine .inr ⟨itr.goes _ _ _ i hZ1 hlt, fun H' => _, fun H' z => ⟨xs.length - (i + 1), by omega, z⟩, fun y H' hy => ?_⟩
      have s2 := s1.step st
      obtain ⟨hH', hr⟩ := itr.yields _ _ _ i y H' _ s2.live hZ1 hx hy
      have sty := step_yld st.tin hH'
      have s3 := (s2.step sty).wipe own
      simp only [dcF] at e5
      split at e5
      · simp at e5
      · rename_i ρ1 e8
        refine setTg_ok s3 hr e8 fun σ2 hl2 ho s4 => ⟨wipe_tg hl2 hown ho, yes_if ?_⟩
        split at e5
        · rename_i k' tsc e9
          split at e5
          · rename_i r1 tsd e10
            split at e5
            · rename_i hnl
              simp only [Option.some.injEq, Prod.mk.injEq] at e5
              obtain ⟨⟨rfl, rfl⟩, rfl⟩ := e5
              refine ⟨ρ1, W, T, tsi, .p (.int k'), tsc, s4, e9, fun u H4 A4 st4 re4 => ?_⟩
              have s5 := s4.step st4
              refine ⟨ρ1, W, T, tsc, r1, tsd, s5, e10, fun z H5 A5 st5 re5 => ?_⟩
              have hu : u = .int k' := re4.sl
              have stA := (sty.trans st4).trans st5
              have g5 : H5 Dn = some (.dK kvs) := stA.keep _ _ hat hDT
              have hrz : Rp K (Mof W T) T H5 r1.fz z := re5.fz s5.live
              have tupK : ∀ a vs, H5 a = some (.tup vs) → L2.upd H5 Dn (.dK (putK kvs (Sum.inl k') z)) a = some (.tup vs) ∧ ¬ Mof W T a := fun a vs g => by
                refine ⟨?_, fun w => ?_⟩
                · rw [upd_ne fun w => by rw [w, g5] at g; cases g]; exact g
                · obtain ⟨ws, g'⟩ := (s5.step st5).lists a w
                  rw [g] at g'; cases g'
              have hv5 : Rps K (Mof W T) T H5 vs (kvs.map (·.2)) := Rps.imp (fun a o g w => ⟨stA.keep a o g fun q => w (.inl q), w⟩) hv
              obtain ⟨p1, p2⟩ := put_ok (k := k') (ks := ks) hrz hk hv5
              have hpl : (putK kvs (Sum.inl k') z).length ≤ kvs.length + 1 := length_putK kvs _ z
              refine ⟨kvs, Sum.inl k', hu, g5, by omega, rfl, by omega, tsd, _, _, _, hUp (st.trans stA) g5, upd_same, p1, Rps.nlH tupK (putD_nl hnl hn) p2, putD_nl hnl hn, by omega, e4⟩
            · simp at e5
          · simp at e5
        · simp at e5
  · have hi2 : i = xs.length := by omega
    subst hi2
    rw [List.drop_length] at e4
    simp only [dcL, Option.some.injEq, Prod.mk.injEq] at e4
    obtain ⟨rfl, rfl⟩ := e4
    have hd : Rp K (Mof W T) T Hh (.dct ks vs) (.ref Dn) := ⟨Dn, kvs, rfl, hat, hDM, by omega, hk, hv⟩
    exact .inl ⟨itr.stops _ _ _ hZ1, kk _ Hh [] (st1.trans st) (.p hd)⟩
end
end Lt

namespace Lt
open PySem PySem.Spec PyProof.Rows L2

/-! ### the lists of our own change hands -/
theorem flat_nd : ∀ {W : List (List Addr)}, W.flatten.Nodup ↔ (∀ (i : Nat) (A : List Addr), W[i]? = some A → A.Nodup) ∧ (∀ (i j : Nat) (A B : List Addr) (a : Addr), i ≠ j → W[i]? = some A → W[j]? = some B → a ∈ A → a ∉ B)
  | [] => by simp
  | w :: W => by
    rw [List.flatten_cons, List.nodup_append, flat_nd (W := W)]
    constructor
    · rintro ⟨h1, ⟨h2, h3⟩, h4⟩
      refine ⟨fun i A hA => ?_, fun i j A B a hij hA hB ha hb => ?_⟩
      · cases i with
        | zero => simp at hA; subst hA; exact h1
        | succ i => exact h2 i A (by simpa using hA)
      · cases i with
        | zero =>
          simp at hA; subst hA
          cases j with
          | zero => exact hij rfl
          | succ j => exact h4 a ha a (List.mem_flatten.mpr ⟨B, List.mem_of_getElem? (by simpa using hB), hb⟩) rfl
        | succ i =>
          cases j with
          | zero =>
            simp at hB; subst hB
            exact h4 a hb a (List.mem_flatten.mpr ⟨A, List.mem_of_getElem? (by simpa using hA), ha⟩) rfl
          | succ j => exact h3 i j A B a (by omega) (by simpa using hA) (by simpa using hB) ha hb
    · rintro ⟨h1, h2⟩
      refine ⟨h1 0 w rfl, ⟨fun i A hA => h1 (i + 1) A (by simpa using hA), fun i j A B a hij hA hB => h2 (i + 1) (j + 1) A B a (by omega) (by simpa using hA) (by simpa using hB)⟩, fun a ha b hb e => ?_⟩
      subst e
      obtain ⟨B, hB, hb2⟩ := List.mem_flatten.mp hb
      obtain ⟨k, hk⟩ := List.mem_iff_getElem?.mp hB
      exact h2 0 (k + 1) w B a (by omega) rfl (by simpa using hk) ha hb2
theorem mem_flat_iff {W : List (List Addr)} {a : Addr} : a ∈ W.flatten ↔ ∃ (i : Nat) (A : List Addr), W[i]? = some A ∧ a ∈ A := by
  rw [List.mem_flatten]
  constructor
  · rintro ⟨A, h1, h2⟩
    obtain ⟨k, hk⟩ := List.mem_iff_getElem?.mp h1
    exact ⟨k, A, hk, h2⟩
  · rintro ⟨i, A, h1, h2⟩
    exact ⟨A, List.mem_of_getElem? h1, h2⟩
/-- what a statement leaves as it is -/
structure StepS (T : Option Addr) (W : List (List Addr)) (H : Hp) (W' : List (List Addr)) (H' : Hp) : Prop where
  keep : ∀ a o, H a = some o → ¬ Mof W T a → H' a = some o ∧ ¬ Mof W' T a
section
variable {K : PySem.W.Frag} {F : FT} {ρ : Env} {W W1 W2 : List (List Addr)} {T : Option Addr} {σ : L2.St} {H H1 H2 : Hp} {ts ts1 ts2 : Tin} {i j h : Nat} {A B A' : List Addr} {v : V} {r r' : R}
theorem StepS.refl : StepS T W H W H := ⟨fun _ _ g n => ⟨g, n⟩⟩
theorem StepS.trans (a : StepS T W H W1 H1) (b : StepS T W1 H1 W2 H2) : StepS T W H W2 H2 := ⟨fun x o g n => by
  obtain ⟨g1, n1⟩ := a.keep x o g n
  exact b.keep x o g1 n1⟩
theorem Step.s (st : Step T H H1 ts1) : StepS T W H W H1 := ⟨fun a o g n => ⟨st.keep a o g fun t => n (.inl t), n⟩⟩
theorem StepS.ext (st : Step T H H1 ts1) (hB : ∀ b ∈ B, H b = none) : StepS T W H (W ++ [B]) H1 := ⟨fun a o g n => ⟨st.keep a o g fun t => n (.inl t), fun z => by
  rcases Mof_app.mp z with z | z
  · exact n z
  · rw [hB a z] at g; cases g⟩⟩
/-- the list of W behind a change at i and at a hidden place h -/
def chW (W : List (List Addr)) (i h : Nat) (A' : List Addr) : List (List Addr) := (W.set i A').set h []
theorem chW_at {k : Nat} (h1 : k ≠ i) (h2 : k ≠ h) : (chW W i h A')[k]? = W[k]? := by
  unfold chW
  rw [List.getElem?_set_ne (Ne.symm h2), List.getElem?_set_ne (Ne.symm h1)]
theorem chW_i (hi : i < W.length) (hh : i ≠ h) : (chW W i h A')[i]? = some A' := by
  unfold chW
  rw [List.getElem?_set_ne (Ne.symm hh), List.getElem?_set_self hi]
theorem chW_h {C : List Addr} (e : (chW W i h A')[h]? = some C) : C = [] := by
  unfold chW at e
  rw [List.getElem?_set] at e
  simp only [if_true] at e
  split at e
  · exact (Option.some.inj e).symm
  · cases e
theorem chW_len : (chW W i h A').length = W.length := by simp [chW]
theorem chW_mem {a : Addr} (hA : W[i]? = some A) (hB : ∀ a ∈ B, ∃ C, W[h]? = some C ∧ a ∈ C) (hi : i ≠ h) (sub : ∀ a ∈ A', a ∈ A ∨ a ∈ B) (ha : a ∈ (chW W i h A').flatten) : a ∈ W.flatten := by
  obtain ⟨k, C, h1, h2⟩ := mem_flat_iff.mp ha
  by_cases k1 : k = i
  · subst k1
    rw [chW_i (List.getElem?_eq_some_iff.mp hA).1 hi] at h1
    cases h1
    rcases sub a h2 with z | z
    · exact mem_flat hA z
    · obtain ⟨C, c1, c2⟩ := hB a z
      exact mem_flat c1 c2
  · by_cases k2 : k = h
    · subst k2
      rw [chW_h h1] at h2
      simp at h2
    · rw [chW_at k1 k2] at h1
      exact mem_flat h1 h2
theorem chW_nd (nd : W.flatten.Nodup) (hA : W[i]? = some A) (hB : ∀ a ∈ B, ∃ C, W[h]? = some C ∧ a ∈ C) (hi : i ≠ h) (sub : ∀ a ∈ A', a ∈ A ∨ a ∈ B) (ndA : A'.Nodup) : (chW W i h A').flatten.Nodup := by
  rw [flat_nd] at nd ⊢
  obtain ⟨n1, n2⟩ := nd
  have hil := (List.getElem?_eq_some_iff.mp hA).1
  have atI : ∀ {C}, (chW W i h A')[i]? = some C → C = A' := fun e => by rw [chW_i hil hi] at e; exact (Option.some.inj e).symm
  refine ⟨fun k C hC => ?_, fun k l C E a hkl hC hE ha hb => ?_⟩
  · by_cases k1 : k = i
    · subst k1; rw [atI hC]; exact ndA
    · by_cases k2 : k = h
      · subst k2; rw [chW_h hC]; exact List.nodup_nil
      · rw [chW_at k1 k2] at hC; exact n1 k C hC
  · have out : ∀ {k l : Nat} {E : List Addr}, k = i → l ≠ i → l ≠ h → W[l]? = some E → a ∈ A' → a ∉ E := fun {k l E} ek l1 l2 hE ha hb => by
      rcases sub a ha with z | z
      · exact n2 i l A E a (Ne.symm l1) hA hE z hb
      · obtain ⟨C, c1, c2⟩ := hB a z
        exact n2 h l C E a (Ne.symm l2) c1 hE c2 hb
    by_cases k2 : k = h
    · subst k2; rw [chW_h hC] at ha; simp at ha
    · by_cases l2 : l = h
      · subst l2; rw [chW_h hE] at hb; simp at hb
      · by_cases k1 : k = i
        · subst k1
          rw [atI hC] at ha
          rw [chW_at (Ne.symm hkl) l2] at hE
          exact out rfl (Ne.symm hkl) l2 hE ha hb
        · rw [chW_at k1 k2] at hC
          by_cases l1 : l = i
          · subst l1
            rw [atI hE] at hb
            exact out rfl k1 k2 hC hb ha
          · rw [chW_at l1 l2] at hE
            exact n2 k l C E a hkl hC hE ha hb
/-- slot i holds something else; its own lists may have changed; A' are from its old ones and from hidden ones -/
theorem SR.chg (s : SR K ρ W T σ H ts) (hi : i < ρ.length) (hh : ρ.length ≤ h) (hA : W[i]? = some A) (hB : ∀ a ∈ B, ∃ C, W[h]? = some C ∧ a ∈ C) (hk : ∀ a o, H a = some o → a ∉ A → H1 a = some o) (sub : ∀ a ∈ A', a ∈ A ∨ a ∈ B) (ndA : A'.Nodup)
    (hl : ∀ a ∈ A', ∃ vs, H1 a = some (.lst vs)) (sl : SlR K (Mof (chW W i h A') T) T H1 r v A') : SR K (setE ρ i (some r)) (chW W i h A') T (σ.set i (some v)) H1 ts ∧ StepS T W H (chW W i h A') H1 := by
  have hih : i ≠ h := by omega
  have hm : ∀ a, a ∈ (chW W i h A').flatten → a ∈ W.flatten := fun a ha => chW_mem hA hB hih sub ha
  have hM : ∀ a, Mof (chW W i h A') T a → Mof W T a := fun a z => by
    rcases z with z | z
    · exact .inl z
    · exact .inr (hm a z)
  have sub2 : ∀ a o, H a = some o → ¬ Mof W T a → H1 a = some o ∧ ¬ Mof (chW W i h A') T a := fun a o g n => ⟨hk a o g fun z => n (.inr (mem_flat hA z)), fun z => n (hM a z)⟩
  have hil := (List.getElem?_eq_some_iff.mp hA).1
  refine ⟨⟨by rw [List.length_set, setE_len]; exact s.ls, by rw [setE_len, chW_len]; exact s.lw, fun k q hq => ?_, chW_nd s.nd hA hB hih sub ndA, fun a ha => s.nT a (hm a ha), fun a ha => ?_, ?_⟩, ⟨sub2⟩⟩
  · rw [getE_set] at hq
    split at hq
    · rename_i hc
      obtain ⟨rfl, _⟩ := hc
      cases hq
      exact ⟨v, A', by rw [List.getElem?_set_self (by rw [s.ls]; exact hi)], chW_i hil hih, sl⟩
    · rename_i hc
      have hki : k ≠ i := fun z => hc ⟨z, hi⟩
      obtain ⟨u, C, h1, h2, h3⟩ := s.slot k q hq
      have hkl : k < ρ.length := by rw [← s.ls]; exact (List.getElem?_eq_some_iff.mp h1).1
      refine ⟨u, C, by rw [List.getElem?_set_ne (Ne.symm hki)]; exact h1, by rw [chW_at hki (by omega)]; exact h2, h3.imp sub2 fun a ha o g => hk a o g fun z => ?_⟩
      exact (flat_nd.mp s.nd).2 k i C A a hki h2 hA ha z
  · obtain ⟨k, C, h1, h2⟩ := mem_flat_iff.mp ha
    by_cases k1 : k = i
    · subst k1
      rw [chW_i hil hih] at h1
      cases h1
      exact hl a h2
    · by_cases k2 : k = h
      · subst k2
        rw [chW_h h1] at h2
        simp at h2
      · rw [chW_at k1 k2] at h1
        obtain ⟨vs, g⟩ := s.lv a (mem_flat h1 h2)
        exact ⟨vs, hk a _ g fun z => (flat_nd.mp s.nd).2 k i C A a k1 h1 hA h2 z⟩
  · have t := s.tin
    cases hT : T with
    | none => trivial
    | some b =>
      rw [hT] at t
      exact ⟨hk b _ t.1 fun z => s.nT b (mem_flat hA z) hT, t.2⟩
theorem asg_own {own : Bool} (e : asgR own r = some r') : (own = true ∧ r' = r) ∨ r' = .p r.fz := by
  unfold asgR at e
  cases own with
  | true =>
    cases r with
    | p d => simp at e
    | o1 xs => exact .inl ⟨rfl, by simpa using e.symm⟩
    | o2 xs => exact .inl ⟨rfl, by simpa using e.symm⟩
  | false => exact .inr (by simpa using e.symm)
theorem setE_none : ∀ {ρ : Env} {i : Nat} {y : Option R}, ρ.length ≤ i → setE ρ i y = ρ
  | [], _, _, _ => rfl
  | x :: r, 0, _, h => by simp at h
  | x :: r, i + 1, y, h => by
    unfold setE
    rw [setE_none (by simpa using h)]
/-- a hidden thing goes into slot i -/
theorem SR.take {own : Bool} (s : SR K ρ W T σ H ts) (hh : ρ.length ≤ h) (hB : W[h]? = some B) (sl : SlR K (Mof W T) T H r v B) (e : asgR own r = some r') :
    ∃ W', W'.length = W.length ∧ (∀ k, ρ.length ≤ k → k ≠ h → W'[k]? = W[k]?) ∧ (∀ a, Mof W' T a → Mof W T a) ∧ SR K (setE ρ i (some r')) W' T (σ.set i (some v)) H ts ∧ StepS T W H W' H := by
  by_cases hi : i < ρ.length
  · obtain ⟨A, hA⟩ : ∃ A, W[i]? = some A := ⟨_, List.getElem?_eq_getElem (Nat.lt_of_lt_of_le hi s.lw)⟩
    have hih : i ≠ h := by omega
    have fin : ∀ A', (∀ a ∈ A', a ∈ B) → A'.Nodup → SlR K (Mof (chW W i h A') T) T H r' v A' → ∃ W', W'.length = W.length ∧ (∀ k, ρ.length ≤ k → k ≠ h → W'[k]? = W[k]?) ∧ (∀ a, Mof W' T a → Mof W T a) ∧ SR K (setE ρ i (some r')) W' T (σ.set i (some v)) H ts ∧ StepS T W H W' H := fun A' sub nd sl' => by
      have hB2 : ∀ a ∈ B, ∃ C, W[h]? = some C ∧ a ∈ C := fun a ha => ⟨B, hB, ha⟩
      have sub2 : ∀ a ∈ A', a ∈ A ∨ a ∈ B := fun a ha => .inr (sub a ha)
      obtain ⟨s1, st⟩ := s.chg hi hh hA hB2 (fun a o g _ => g) sub2 nd (fun a ha => s.lv a (mem_flat hB (sub a ha))) sl'
      refine ⟨_, chW_len, fun k hk hkh => chW_at (by omega) hkh, fun a z => ?_, s1, st⟩
      rcases z with z | z
      · exact .inl z
      · exact .inr (chW_mem hA hB2 hih sub2 z)
    have hnd := flat_nd.mp s.nd
    rcases asg_own e with ⟨_, rfl⟩ | rfl
    · refine fin B (fun a ha => ha) (hnd.1 h B hB) (sl.imp (fun a o g n => ⟨g, fun z => n ?_⟩) fun a _ o g => g)
      rcases z with z | z
      · exact .inl z
      · exact .inr (chW_mem (B := B) hA (fun a ha => ⟨B, hB, ha⟩) hih (fun a ha => .inr ha) z)
    · refine fin [] (fun a ha => by simp at ha) List.nodup_nil (sl.fz (fun a ha z => ?_) fun a z => ?_)
      · rcases z with z | z
        · exact s.nT a (mem_flat hB ha) z
        · obtain ⟨k, C, h1, h2⟩ := mem_flat_iff.mp z
          by_cases k1 : k = i
          · subst k1
            rw [chW_i (List.getElem?_eq_some_iff.mp hA).1 hih] at h1
            cases h1
            simp at h2
          · by_cases k2 : k = h
            · subst k2
              rw [chW_h h1] at h2
              simp at h2
            · rw [chW_at k1 k2] at h1
              exact hnd.2 h k B C a (Ne.symm k2) hB h1 ha h2
      · rcases z with z | z
        · exact .inl z
        · exact .inr (chW_mem (B := []) hA (fun a ha => by simp at ha) hih (fun a ha => by simp at ha) z)
  · refine ⟨W, rfl, fun _ _ _ => rfl, fun _ z => z, ?_, .refl⟩
    rw [setE_none (by omega), List.set_eq_of_length_le (by rw [s.ls]; omega)]
    exact s
/-- name = value -/
theorem SR.asg {own : Bool} (s : SR K ρ W T σ H ts) (st : Step T H H1 ts1) (re : RE K (Mof W T) T H H1 v r A) (e : asgR own r = some r') : ∃ W', SR K (setE ρ i (some r')) W' T (σ.set i (some v)) H1 ts1 ∧ StepS T W H W' H1 := by
  have s1 := s.ext st re.fr re.nd
  have sl : SlR K (Mof (W ++ [A]) T) T H1 r v A := re.sl.imp (fun a o g n => ⟨g, fun z => n (Mof_app.mp z)⟩) fun a _ o g => g
  obtain ⟨W', _, _, _, s2, st2⟩ := s1.take (i := i) (h := W.length) s.lw (by simp) sl e
  exact ⟨W', s2, (StepS.ext st fun b hb => (re.fr b hb).1).trans st2⟩
theorem hide_mem {a : Addr} (hA : W[j]? = some A) : a ∈ (W.set j [] ++ [A]).flatten ↔ a ∈ W.flatten := by
  have hj := (List.getElem?_eq_some_iff.mp hA).1
  rw [mem_flat_iff, mem_flat_iff]
  constructor
  · rintro ⟨k, C, h1, h2⟩
    by_cases hk : k < W.length
    · rw [List.getElem?_append_left (by simpa using hk)] at h1
      by_cases hkj : k = j
      · subst hkj
        rw [List.getElem?_set_self hj] at h1
        cases h1
        simp at h2
      · rw [List.getElem?_set_ne (Ne.symm hkj)] at h1
        exact ⟨k, C, h1, h2⟩
    · rw [List.getElem?_append_right (by simpa using hk)] at h1
      have e : C = A := by
        cases hz : k - (W.set j []).length with
        | zero => rw [hz] at h1; simpa using h1.symm
        | succ n => rw [hz] at h1; simp at h1
      subst e
      exact ⟨j, C, hA, h2⟩
  · rintro ⟨k, C, h1, h2⟩
    have hk := (List.getElem?_eq_some_iff.mp h1).1
    by_cases hkj : k = j
    · subst hkj
      rw [hA] at h1
      cases h1
      exact ⟨W.length, A, by rw [List.getElem?_append_right (by simp)]; simp, h2⟩
    · exact ⟨k, C, by rw [List.getElem?_append_left (by simpa using hk), List.getElem?_set_ne (Ne.symm hkj)]; exact h1, h2⟩
theorem hide_nd (nd : W.flatten.Nodup) (hA : W[j]? = some A) : (W.set j [] ++ [A]).flatten.Nodup := by
  have hj := (List.getElem?_eq_some_iff.mp hA).1
  have n := flat_nd.mp nd
  rw [List.flatten_append, List.nodup_append]
  refine ⟨?_, by simpa using n.1 j A hA, fun a ha b hb e => ?_⟩
  · rw [flat_nd]
    refine ⟨fun k C hC => ?_, fun k l C E a hkl hC hE ha => ?_⟩
    · by_cases hk : k = j
      · subst hk; rw [List.getElem?_set_self hj] at hC; cases hC; exact List.nodup_nil
      · rw [List.getElem?_set_ne (Ne.symm hk)] at hC; exact n.1 k C hC
    · by_cases hk : k = j
      · subst hk; rw [List.getElem?_set_self hj] at hC; cases hC; simp at ha
      · rw [List.getElem?_set_ne (Ne.symm hk)] at hC
        by_cases hl : l = j
        · subst hl; rw [List.getElem?_set_self hj] at hE; cases hE; simp
        · rw [List.getElem?_set_ne (Ne.symm hl)] at hE
          exact n.2 k l C E a hkl hC hE ha
  · subst e
    have hb' : a ∈ A := by simpa using hb
    obtain ⟨k, C, h1, h2⟩ := mem_flat_iff.mp ha
    by_cases hk : k = j
    · subst hk; rw [List.getElem?_set_self hj] at h1; cases h1; simp at h2
    · rw [List.getElem?_set_ne (Ne.symm hk)] at h1
      exact n.2 k j C A a hk h1 hA h2 hb'
/-- slot j is given up, its lists hidden -/
theorem SR.hide (s : SR K ρ W T σ H ts) (hA : W[j]? = some A) : SR K (setE ρ j none) (W.set j [] ++ [A]) T σ H ts := by
  have hM : ∀ a, Mof (W.set j [] ++ [A]) T a ↔ Mof W T a := fun a => by unfold Mof; rw [hide_mem hA]
  refine ⟨by rw [setE_len]; exact s.ls, by rw [setE_len, List.length_append, List.length_set]; exact Nat.le_trans s.lw (Nat.le_add_right _ _), fun k q hq => ?_, hide_nd s.nd hA, fun a ha => s.nT a ((hide_mem hA).mp ha), fun a ha => s.lv a ((hide_mem hA).mp ha), s.tin⟩
  rw [getE_set] at hq
  split at hq
  · cases hq
  · rename_i hc
    obtain ⟨u, C, h1, h2, h3⟩ := s.slot k q hq
    have hkl : k < ρ.length := by rw [← s.ls]; exact (List.getElem?_eq_some_iff.mp h1).1
    have hkj : k ≠ j := fun z => hc ⟨z, by omega⟩
    refine ⟨u, C, h1, ?_, h3.imp (fun a o g n => ⟨g, fun z => n ((hM a).mp z)⟩) fun a _ o g => g⟩
    rw [List.getElem?_append_left (by rw [List.length_set]; exact Nat.lt_of_lt_of_le hkl s.lw), List.getElem?_set_ne (Ne.symm hkj)]
    exact h2
end
end Lt

namespace Lt
open PySem PySem.Spec PyProof.Rows L2

/-! ### statements -/
structure RtR (K : PySem.W.Frag) (T : Option Addr) (W : List (List Addr)) (H : Hp) (v : V) (r : R) (A : List Addr) (H' : Hp) (ts' : Tin) : Prop where
  keep : ∀ a o, H a = some o → ¬ Mof W T a → H' a = some o
  tin : TinAt T H' ts'
  fr : ∀ a ∈ A, (H a = none ∨ a ∈ W.flatten) ∧ T ≠ some a ∧ ∃ vs, H' a = some (.lst vs)
  nd : A.Nodup
  sl : SlR K (fun a => T = some a ∨ a ∈ A) T H' r v A
def EndS (K : PySem.W.Frag) (W : List (List Addr)) (T : Option Addr) (H : Hp) (ts' : Tin) (D : Ends) : Out → Prop
  | .nx ρ' => ∀ σ' H' W', StepS T W H W' H' → SR K ρ' W' T σ' H' ts' → D.nx σ' H'
  | .rt r => ∀ v H' A, RtR K T W H v r A H' ts' → r.clean = true → D.rt v H'
def tS (K : PySem.W.Frag) (F : FT) (s : Stm) : TS := fun D σ H => ∃ ρ W T ts o ts', SR K ρ W T σ H ts ∧ ex F s ρ ts = some (o, ts') ∧ EndS K W T H ts' D o
section
variable {K : PySem.W.Frag} {F : FT} {ρ : Env} {W W1 W2 : List (List Addr)} {T : Option Addr} {σ : L2.St} {H H1 H2 H' : Hp} {ts ts1 ts2 ts' : Tin} {i j k h : Nat} {A B A' : List Addr} {v : V} {r r' : R} {D : Ends} {o : Out} {a b c t : Tm} {s1 s2 : Stm}
theorem RtR.back (st : StepS T W H W1 H1) (x : RtR K T W1 H1 v r A H' ts') : RtR K T W H v r A H' ts' :=
  ⟨fun a o g n => by
    obtain ⟨g1, n1⟩ := st.keep a o g n
    exact x.keep a o g1 n1, x.tin, fun a ha => by
    obtain ⟨h1, h2, h3⟩ := x.fr a ha
    refine ⟨?_, h2, h3⟩
    cases e : H a with
    | none => exact .inl rfl
    | some o =>
      refine .inr (Classical.byContradiction fun n => ?_)
      obtain ⟨g1, n1⟩ := st.keep a o e fun z => by
        rcases z with z | z
        · exact h2 z
        · exact n z
      rcases h1 with h1 | h1
      · rw [g1] at h1; cases h1
      · exact n1 (.inr h1), x.nd, x.sl⟩
theorem EndS.back (st : StepS T W H W1 H1) (x : EndS K W T H ts' D o) : EndS K W1 T H1 ts' D o := by
  cases o with
  | nx ρ' => exact fun σ' H' W' st' s' => x σ' H' W' (st.trans st') s'
  | rt r => exact fun v H' A z c => x v H' A (z.back st) c
/-- a value is given back -/
theorem rt_of (s : SR K ρ W T σ H ts) (st : Step T H H1 ts1) (re : RE K (Mof W T) T H H1 v r A) (hc : r.clean = true) : RtR K T W H v r A H1 ts1 :=
  ⟨fun a o g n => st.keep a o g fun z => n (.inl z), st.tin, fun a ha => by
    obtain ⟨h1, h2, h3⟩ := re.fr a ha
    exact ⟨.inl h1, h2, h3⟩, re.nd, re.sl.nl hc fun a vs g z => by
    rcases z with z | z
    · obtain ⟨ws, g'⟩ := (s.step st).lists a (.inl z)
      rw [g] at g'; cases g'
    · obtain ⟨_, _, ws, g'⟩ := re.fr a z
      rw [g] at g'; cases g'⟩
theorem i_ret (h : tS K F (.ret t) D σ H) : tRet (tE K F t) D σ H := by
  obtain ⟨ρ, W, T, ts, o, ts', s, e, x⟩ := h
  simp only [ex] at e
  split at e
  · rename_i r ts1 e1
    split at e
    · rename_i hc
      simp only [Option.some.injEq, Prod.mk.injEq] at e
      obtain ⟨rfl, rfl⟩ := e
      exact ⟨ρ, W, T, ts, r, ts1, s, e1, fun v H' A st re => x v H' A (rt_of s st re hc) hc⟩
    · simp at e
  · simp at e
theorem i_retv (h : tS K F (.retv i) D σ H) : tRet (tVar i) D σ H := by
  obtain ⟨ρ, W, T, ts, o, ts', s, e, x⟩ := h
  simp only [ex] at e
  split at e
  · rename_i r e1
    split at e
    · rename_i hc
      simp only [Option.some.injEq, Prod.mk.injEq] at e
      obtain ⟨rfl, rfl⟩ := e
      obtain ⟨v, A, h1, h2, h3⟩ := s.slot i r e1
      refine ⟨v, h1, x v H A ⟨fun a o g n => g, s.tin, fun a ha => ⟨.inr (mem_flat h2 ha), s.nT a (mem_flat h2 ha), s.lv a (mem_flat h2 ha)⟩, (flat_nd.mp s.nd).1 i A h2, h3.nl hc fun a vs g z => ?_⟩ hc⟩
      have hl : ∃ ws, H a = some (.lst ws) := by
        rcases z with z | z
        · exact s.lists a (.inl z)
        · exact s.lv a (mem_flat h2 z)
      obtain ⟨ws, g'⟩ := hl
      rw [g] at g'; cases g'
    · simp at e
  · simp at e
theorem i_nil (h : tS K F .nil D σ H) : tNext D σ H := by
  obtain ⟨ρ, W, T, ts, o, ts', s, e, x⟩ := h
  simp only [ex, Option.some.injEq, Prod.mk.injEq] at e
  obtain ⟨rfl, rfl⟩ := e
  exact x σ H W .refl s
theorem i_rai (h : tS K F .rai D σ H) : tNever D σ H := by
  obtain ⟨ρ, W, T, ts, o, ts', s, e, x⟩ := h
  simp [ex] at e
theorem i_seq (h : tS K F (.seq s1 s2) D σ H) : tS K F s1 { D with nx := tS K F s2 D } σ H := by
  obtain ⟨ρ, W, T, ts, o, ts', s, e, x⟩ := h
  simp only [ex] at e
  split at e
  · rename_i ρ1 ts1 e1
    exact ⟨ρ, W, T, ts, _, ts1, s, e1, fun σ' H' W' st s' => ⟨ρ1, W', T, ts1, o, ts', s', e, x.back st⟩⟩
  · rename_i hn
    cases o with
    | nx ρ' => exact absurd e (hn ρ' ts')
    | rt r => exact ⟨ρ, W, T, ts, _, ts', s, e, x⟩
/-- a look with no effect in the text -/
theorem i_frz (h : tS K F (.frz i) D σ H) : D.nx σ H := by
  obtain ⟨ρ, W, T, ts, o, ts', s, e, x⟩ := h
  simp only [ex] at e
  split at e
  · rename_i r e1
    simp only [Option.some.injEq, Prod.mk.injEq] at e
    obtain ⟨rfl, rfl⟩ := e
    obtain ⟨v, A, h1, h2, h3⟩ := s.slot i r e1
    have hi : i < ρ.length := by rw [← s.ls]; exact (List.getElem?_eq_some_iff.mp h1).1
    have hih : i ≠ W.length := by have := s.lw; omega
    have hil := (List.getElem?_eq_some_iff.mp h2).1
    obtain ⟨q1, q2⟩ := s.chg (r := .p r.fz) (v := v) (H1 := H) (A' := []) (B := []) hi s.lw h2 (fun a ha => by simp at ha) (fun a o g _ => g) (fun a ha => by simp at ha) List.nodup_nil (fun a ha => by simp at ha)
      (h3.fz (fun a ha z => by
        rcases z with z | z
        · exact s.nT a (mem_flat h2 ha) z
        · obtain ⟨k, C, c1, c2⟩ := mem_flat_iff.mp z
          by_cases k1 : k = i
          · subst k1
            rw [chW_i hil hih] at c1
            cases c1
            simp at c2
          · by_cases k2 : k = W.length
            · subst k2
              rw [chW_h c1] at c2
              simp at c2
            · rw [chW_at k1 k2] at c1
              exact (flat_nd.mp s.nd).2 k i C A a k1 c1 h2 c2 ha) fun a z => by
        rcases z with z | z
        · exact .inl z
        · exact .inr (chW_mem (B := []) h2 (fun a ha => by simp at ha) hih (fun a ha => by simp at ha) z))
    have es : σ.set i (some v) = σ := by
      obtain ⟨hl, he⟩ := List.getElem?_eq_some_iff.mp h1
      rw [← he]
      exact List.set_getElem_self hl
    rw [es] at q1
    exact x σ H _ q2 q1
  · simp at e
theorem i_exp (h : tS K F (.exp t) D σ H) : tDrop (tE K F t) D σ H := by
  obtain ⟨ρ, W, T, ts, o, ts', s, e, x⟩ := h
  simp only [ex] at e
  split at e
  · rename_i r ts1 e1
    simp only [Option.some.injEq, Prod.mk.injEq] at e
    obtain ⟨rfl, rfl⟩ := e
    exact ⟨ρ, W, T, ts, r, ts1, s, e1, fun v H1 A st re => x σ H1 W (Step.s st) (s.step st)⟩
  · simp at e
theorem i_asg {own : Bool} (h : tS K F (.asg i own t) D σ H) : tAsg (tE K F t) (gName i) D σ H := by
  obtain ⟨ρ, W, T, ts, o, ts', s, e, x⟩ := h
  simp only [ex] at e
  split at e
  · rename_i r ts1 e1
    obtain ⟨r', e2, e3⟩ := Option.map_eq_some_iff.mp e
    simp only [Prod.mk.injEq] at e3
    obtain ⟨rfl, rfl⟩ := e3
    refine ⟨ρ, W, T, ts, r, ts1, s, e1, fun v H1 A st re => ?_⟩
    obtain ⟨W', q1, q2⟩ := s.asg (i := i) st re e2
    exact x _ H1 W' q2 q1
  · simp at e
theorem i_mov (h : tS K F (.mov i j) D σ H) : tAsg (tVar j) (gName i) D σ H := by
  obtain ⟨ρ, W, T, ts, o, ts', s, e, x⟩ := h
  simp only [ex] at e
  split at e
  · rename_i r e1
    obtain ⟨r', e2, e3⟩ := Option.map_eq_some_iff.mp e
    simp only [Prod.mk.injEq] at e3
    obtain ⟨rfl, rfl⟩ := e3
    obtain ⟨v, A, h1, h2, h3⟩ := s.slot j r e1
    have s1 := s.hide h2
    have hM : ∀ a, Mof (W.set j [] ++ [A]) T a ↔ Mof W T a := fun a => by unfold Mof; rw [hide_mem h2]
    obtain ⟨W', _, _, _, q1, q2⟩ := s1.take (i := i) (own := true) (h := W.length) (r := r) (v := v) (by rw [setE_len]; exact s.lw) (by rw [List.getElem?_append_right (by simp)]; simp) (h3.imp (fun a o g n => ⟨g, fun z => n ((hM a).mp z)⟩) fun a _ o g => g) e2
    exact ⟨v, h1, x _ H W' (StepS.trans ⟨fun a o g n => ⟨g, fun z => n ((hM a).mp z)⟩⟩ q2) q1⟩
  · simp at e
theorem i_unp {is : List Nat} (h : tS K F (.unp is t) D σ H) : tAsg (tE K F t) (gTup K is.length (gNms is)) D σ H := by
  obtain ⟨ρ, W, T, ts, o, ts', s, e, x⟩ := h
  simp only [ex] at e
  split at e
  · rename_i ds ts1 e1
    obtain ⟨ρ1, e2, e3⟩ := Option.map_eq_some_iff.mp e
    simp only [Prod.mk.injEq] at e3
    obtain ⟨rfl, rfl⟩ := e3
    refine ⟨ρ, W, T, ts, _, ts1, s, e1, fun v H1 A st re => ?_⟩
    have rv : Rp K (Mof W T) T H1 (.tup ds) v := re.fz s.live
    exact setTg_ok (tg := .many is) (s.step st) rv e2 fun σ2 _ _ s2 => x σ2 H1 W (Step.s st) s2
  · simp at e
theorem i_ife (h : tS K F (.ife c s1 s2) D σ H) : tIfS (tT K F c) (tS K F s1) (tS K F s2) D σ H := by
  obtain ⟨ρ, W, T, ts, o, ts', s, e, x⟩ := h
  simp only [ex] at e
  split at e
  · rename_i ts1 e1
    refine ⟨ρ, W, T, ts, true, ts1, s, e1, fun H1 st => ?_⟩
    show (if true = true then tS K F s1 D σ H1 else tS K F s2 D σ H1)
    rw [if_pos rfl]
    exact ⟨ρ, W, T, ts1, o, ts', s.step st, e, x.back (Step.s st)⟩
  · rename_i ts1 e1
    refine ⟨ρ, W, T, ts, false, ts1, s, e1, fun H1 st => ?_⟩
    show (if false = true then tS K F s1 D σ H1 else tS K F s2 D σ H1)
    rw [if_neg (by simp)]
    exact ⟨ρ, W, T, ts1, o, ts', s.step st, e, x.back (Step.s st)⟩
  · simp at e
/-- two values, then two names -/
theorem SR.two {oi oj : Bool} {x y : R} {u w : R} {va vb : V} {A2 : List Addr} (s : SR K ρ W T σ H ts) (st1 : Step T H H1 ts1) (re1 : RE K (Mof W T) T H H1 va x A) (st2 : Step T H1 H2 ts2) (re2 : RE K (Mof (W ++ [A]) T) T H1 H2 vb y A2) (e1 : asgR oi x = some u) (e2 : asgR oj y = some w) :
    ∃ W', SR K (setE (setE ρ i (some u)) j (some w)) W' T ((σ.set i (some va)).set j (some vb)) H2 ts2 ∧ StepS T W H W' H2 := by
  have q1 := s.ext st1 re1.fr re1.nd
  have q2 := q1.ext st2 re2.fr re2.nd
  have l1 : SlR K (Mof (W ++ [A] ++ [A2]) T) T H2 x va A := re1.sl.imp (fun a o g n => by
    have n2 : ¬ Mof (W ++ [A]) T a := fun z => n (Mof_app.mp z)
    refine ⟨st2.keep a o g fun z => n2 (.inl z), fun z => ?_⟩
    rcases Mof_app.mp z with z | z
    · exact n2 z
    · rw [(re2.fr a z).1] at g; cases g) fun a ha o g => st2.keep a o g (re1.fr a ha).2.1
  have l2 : SlR K (Mof (W ++ [A] ++ [A2]) T) T H2 y vb A2 := re2.sl.imp (fun a o g n => ⟨g, fun z => n (Mof_app.mp z)⟩) fun a _ o g => g
  obtain ⟨W1, w1, w2, w3, q3, t3⟩ := q2.take (i := i) (h := W.length) s.lw (by simp) l1 e1
  have l3 : SlR K (Mof W1 T) T H2 y vb A2 := l2.imp (fun a o g n => ⟨g, fun z => n (w3 a z)⟩) fun a _ o g => g
  obtain ⟨W2, _, _, _, q4, t4⟩ := q3.take (i := j) (h := W.length + 1) (by rw [setE_len]; have := s.lw; omega) (by rw [w2 _ (by have := s.lw; omega) (by omega)]; simp) l3 e2
  exact ⟨W2, q4, (((StepS.ext st1 fun b hb => (re1.fr b hb).1).trans (StepS.ext st2 fun b hb => (re2.fr b hb).1)).trans t3).trans t4⟩
theorem i_parG {oi oj : Bool} (h : tS K F (.par i j oi oj a b) D σ H) : tE K F a σ H fun va H1 => tE K F b σ H1 fun vb H2 => ∀ H3, (H3 = H2 ∨ ∃ p o, H2 p = none ∧ H3 = upd H2 p o) → D.nx ((σ.set i (some va)).set j (some vb)) H3 := by
  obtain ⟨ρ, W, T, ts, o, ts', s, e, x⟩ := h
  simp only [ex] at e
  split at e
  · rename_i r1 ts1 e1
    split at e
    · rename_i r2 ts2 e2
      split at e
      · rename_i u w e3 e4
        simp only [Option.some.injEq, Prod.mk.injEq] at e
        obtain ⟨rfl, rfl⟩ := e
        refine ⟨ρ, W, T, ts, r1, ts1, s, e1, fun va H1 A st1 re1 => ⟨ρ, W ++ [A], T, ts1, r2, ts2, s.ext st1 re1.fr re1.nd, e2, fun vb H2 A2 st2 re2 H3 h3 => ?_⟩⟩
        obtain ⟨W', q1, q2⟩ := s.two (i := i) (j := j) st1 re1 st2 re2 e3 e4
        have st3 := step_yld q1.tin h3
        exact x _ H3 W' (q2.trans (Step.s st3)) (q1.step st3)
      · simp at e
    · simp at e
  · simp at e
theorem i_par {oi oj : Bool} (h : tS K F (.par i j oi oj a b) D σ H) : tPar i j (tCons (tE K F a) (tCons (tE K F b) tNil)) D σ H := by
  have h2 := i_parG h
  obtain ⟨ρ, W, T, ts, r, ts', s, e, k⟩ := h2
  refine ⟨ρ, W, T, ts, r, ts', s, e, fun v H1 A st re => ?_⟩
  obtain ⟨ρ', W', T', ts1, r', ts1', s', e', k'⟩ := k v H1 A st re
  exact ⟨ρ', W', T', ts1, r', ts1', s', e', fun v' H2 A' st' re' => ⟨v, v', rfl, k' v' H2 A' st' re' H2 (.inl rfl)⟩⟩
theorem i_parT {oi oj : Bool} (h : tS K F (.par i j oi oj a b) D σ H) : tAsg (tTup (tCons (tE K F a) (tCons (tE K F b) tNil))) (gTup K 2 (gCons (gName i) (gCons (gName j) gNil))) D σ H := by
  have h2 := i_parG h
  obtain ⟨ρ, W, T, ts, r, ts', s, e, k⟩ := h2
  refine ⟨ρ, W, T, ts, r, ts', s, e, fun v H1 A st re => ?_⟩
  obtain ⟨ρ', W', T', ts1, r', ts1', s', e', k'⟩ := k v H1 A st re
  refine ⟨ρ', W', T', ts1, r', ts1', s', e', fun v' H2 A' st' re' => ⟨le_line (by show 2 ≤ LIM; decide), fun p hp => ?_⟩⟩
  exact ⟨p, [v, v'], rfl, SqT.of upd_same, rfl, v, [v'], rfl, v', [], rfl, rfl, k' v' H2 A' st' re' _ (.inr ⟨p, _, hp, rfl⟩)⟩
/-- three -/
theorem i_triG {oi oj ok : Bool} (h : tS K F (.tri i j k oi oj ok a b c) D σ H) : tE K F a σ H fun va H1 => tE K F b σ H1 fun vb H2 => tE K F c σ H2 fun vc H3 => ∀ H4, (H4 = H3 ∨ ∃ p o, H3 p = none ∧ H4 = upd H3 p o) → D.nx (((σ.set i (some va)).set j (some vb)).set k (some vc)) H4 := by
  obtain ⟨ρ, W, T, ts, o, ts', s, e, x⟩ := h
  simp only [ex] at e
  split at e
  · rename_i r1 ts1 e1
    split at e
    · rename_i r2 ts2 e2
      split at e
      · rename_i r3 ts3 e2'
        split at e
        · rename_i u w y e3 e4 e5
          simp only [Option.some.injEq, Prod.mk.injEq] at e
          obtain ⟨rfl, rfl⟩ := e
          refine ⟨ρ, W, T, ts, r1, ts1, s, e1, fun va H1 A st1 re1 => ⟨ρ, W ++ [A], T, ts1, r2, ts2, s.ext st1 re1.fr re1.nd, e2, fun vb H2 A2 st2 re2 => ⟨ρ, W ++ [A] ++ [A2], T, ts2, r3, ts3, (s.ext st1 re1.fr re1.nd).ext st2 re2.fr re2.nd, e2', fun vc H3 A3 st3 re3 H4 h4 => ?_⟩⟩⟩
          have q2 := (s.ext st1 re1.fr re1.nd).ext st2 re2.fr re2.nd
          have q3 := q2.ext st3 re3.fr re3.nd
          have l1 : SlR K (Mof (W ++ [A] ++ [A2]) T) T H2 r1 va A := re1.sl.imp (fun a o g n => by
            have n2 : ¬ Mof (W ++ [A]) T a := fun z => n (Mof_app.mp z)
            refine ⟨st2.keep a o g fun z => n2 (.inl z), fun z => ?_⟩
            rcases Mof_app.mp z with z | z
            · exact n2 z
            · rw [(re2.fr a z).1] at g; cases g) fun a ha o g => st2.keep a o g (re1.fr a ha).2.1
          have l2 : SlR K (Mof (W ++ [A] ++ [A2]) T) T H2 r2 vb A2 := re2.sl.imp (fun a o g n => ⟨g, fun z => n (Mof_app.mp z)⟩) fun a _ o g => g
          have up : ∀ a o, H2 a = some o → ¬ Mof (W ++ [A] ++ [A2]) T a → H3 a = some o ∧ ¬ Mof (W ++ [A] ++ [A2] ++ [A3]) T a := fun a o g n => by
            refine ⟨st3.keep a o g fun z => n (.inl z), fun z => ?_⟩
            rcases Mof_app.mp z with z | z
            · exact n z
            · rw [(re3.fr a z).1] at g; cases g
          have m1 := l1.imp up fun a ha o g => st3.keep a o g (re1.fr a ha).2.1
          have m2 := l2.imp up fun a ha o g => st3.keep a o g (re2.fr a ha).2.1
          have m3 : SlR K (Mof (W ++ [A] ++ [A2] ++ [A3]) T) T H3 r3 vc A3 := re3.sl.imp (fun a o g n => ⟨g, fun z => n (Mof_app.mp z)⟩) fun a _ o g => g
          have hw := s.lw
          obtain ⟨W1, w1, w2, w3, p1, t1⟩ := q3.take (i := i) (h := W.length) s.lw (by simp) m1 e3
          have m2' := m2.imp (M' := Mof W1 T) (fun a o g n => ⟨g, fun z => n (w3 a z)⟩) fun a _ o g => g
          have m3' := m3.imp (M' := Mof W1 T) (fun a o g n => ⟨g, fun z => n (w3 a z)⟩) fun a _ o g => g
          obtain ⟨W2, w4, w5, w6, p2, t2⟩ := p1.take (i := j) (h := W.length + 1) (by rw [setE_len]; omega) (by rw [w2 _ (by omega) (by omega)]; simp) m2' e4
          have m3'' := m3'.imp (M' := Mof W2 T) (fun a o g n => ⟨g, fun z => n (w6 a z)⟩) fun a _ o g => g
          obtain ⟨W3, _, _, _, p3, t3⟩ := p2.take (i := k) (h := W.length + 2) (by rw [setE_len, setE_len]; omega) (by rw [w5 _ (by rw [setE_len]; omega) (by omega), w2 _ (by omega) (by omega)]; simp) m3'' e5
          have st4 := step_yld p3.tin h4
          exact x _ H4 W3 (((((((StepS.ext st1 fun b hb => (re1.fr b hb).1).trans (StepS.ext st2 fun b hb => (re2.fr b hb).1)).trans (StepS.ext st3 fun b hb => (re3.fr b hb).1)).trans t1).trans t2).trans t3).trans (Step.s st4)) (p3.step st4)
        · simp at e
      · simp at e
    · simp at e
  · simp at e
theorem i_tri {oi oj ok : Bool} (h : tS K F (.tri i j k oi oj ok a b c) D σ H) : tPar3 i j k (tCons (tE K F a) (tCons (tE K F b) (tCons (tE K F c) tNil))) D σ H := by
  obtain ⟨ρ, W, T, ts, r, ts', s, e, k1⟩ := i_triG h
  refine ⟨ρ, W, T, ts, r, ts', s, e, fun v H1 A st re => ?_⟩
  obtain ⟨ρ', W', T', ts1, r', ts1', s', e', k2⟩ := k1 v H1 A st re
  refine ⟨ρ', W', T', ts1, r', ts1', s', e', fun v' H2 A' st' re' => ?_⟩
  obtain ⟨ρ2, W2, T2, ts2, r2, ts2', s2, e2, k3⟩ := k2 v' H2 A' st' re'
  exact ⟨ρ2, W2, T2, ts2, r2, ts2', s2, e2, fun v2 H3 A2 st2 re2 => ⟨v, v', v2, rfl, k3 v2 H3 A2 st2 re2 H3 (.inl rfl)⟩⟩
end
end Lt

namespace Lt
open PySem PySem.Spec PyProof.Rows L2
section
variable {K : PySem.W.Frag} {F : FT} {ρ : Env} {W W1 W2 : List (List Addr)} {T : Option Addr} {σ : L2.St} {H H1 H2 H' : Hp} {ts ts1 ts2 ts' : Tin} {i j k h : Nat} {A B A' : List Addr} {v : V} {r r' : R} {D : Ends} {o : Out} {a b c t : Tm} {s1 s2 : Stm}
/-- a, (b, c) = an own list, a pair -/
theorem i_par3 (h : tS K F (.par3 i j k a b) D σ H) : tAsg (tTup (tCons (tE K F a) (tCons (tE K F b) tNil))) (gTup K 2 (gCons (gName i) (gCons (gTup K 2 (gCons (gName j) (gCons (gName k) gNil))) gNil))) D σ H := by
  obtain ⟨ρ, W, T, ts, o, ts', s, e, x⟩ := h
  simp only [ex] at e
  split at e
  · rename_i xs ts1 e1
    split at e
    · rename_i y z ts2 e2
      simp only [Option.some.injEq, Prod.mk.injEq] at e
      obtain ⟨rfl, rfl⟩ := e
      refine ⟨ρ, W, T, ts, _, ts1, s, e1, fun va H1 A st1 re1 => ⟨ρ, W ++ [A], T, ts1, _, ts2, s.ext st1 re1.fr re1.nd, e2, fun vb H2 A2 st2 re2 => ⟨le_line (by show 2 ≤ LIM; decide), fun p hp => ?_⟩⟩⟩
      have q1 := s.ext st1 re1.fr re1.nd
      have q2 := q1.step st2
      have l1 : SlR K (Mof (W ++ [A]) T) T H2 (.o1 xs) va A := re1.sl.imp (fun a o g n => by
        have n2 : ¬ Mof (W ++ [A]) T a := fun z => n (Mof_app.mp z)
        exact ⟨st2.keep a o g fun z => n2 (.inl z), n2⟩) fun a ha o g => st2.keep a o g (re1.fr a ha).2.1
      have rp : Rp K (Mof (W ++ [A]) T) T H2 (.tup [y, z]) vb := re2.fz q1.live
      obtain ⟨W1, _, _, w3, q3, t3⟩ := q2.take (i := i) (own := true) (r' := .o1 xs) (h := W.length) s.lw (by simp) l1 rfl
      have st3 : Step T H2 (upd H2 p (.tup [va, vb])) ts2 := .new q3.tin hp
      have q4 := q3.step st3
      have rp2 : Rp K (Mof W1 T) T (upd H2 p (.tup [va, vb])) (.tup [y, z]) vb := Rp.imp (fun a o g n => by
        have n2 : ¬ Mof W1 T a := fun z => n (w3 a z)
        exact ⟨st3.keep a o g fun z => n2 (.inl z), n2⟩) rp
      refine ⟨p, [va, vb], rfl, SqT.of upd_same, rfl, va, [vb], rfl, vb, [], rfl, ?_⟩
      have fin : gTup K 2 (gCons (gName j) (gCons (gName k) gNil)) vb (σ.set i (some va)) (upd H2 p (.tup [va, vb])) fun σ' H'' => ([] : List V) = [] ∧ D.nx σ' H'' :=
        setTg_ok (tg := .many [j, k]) (ρ1 := setE (setE (setE ρ i (some (.o1 xs))) j (some (.p y))) k (some (.p z))) q4 rp2 rfl fun σ2 _ _ s2 => ⟨rfl, x σ2 _ W1 (((StepS.ext st1 fun b hb => (re1.fr b hb).1).trans (Step.s st2)).trans (t3.trans (Step.s st3))) s2⟩
      exact fin
    · simp at e
  · simp at e
theorem SR.ilt (s : SR K ρ W T σ H ts) (e : getE ρ i = some r) : i < ρ.length := by
  obtain ⟨v, A, h1, _⟩ := s.slot i r e
  rw [← s.ls]
  exact (List.getElem?_eq_some_iff.mp h1).1
theorem set_same (h1 : σ[i]? = some (some v)) : σ.set i (some v) = σ := by
  obtain ⟨hl, he⟩ := List.getElem?_eq_some_iff.mp h1
  rw [← he]
  exact List.set_getElem_self hl
/-- the own list of slot i becomes another -/
theorem SR.mut1 {xs ys : List Lt.D} {ws : List V} {p : Addr} {vs : List V} (s : SR K ρ W T σ H ts) (e : getE ρ i = some (.o1 xs)) (h1 : σ[i]? = some (some (.ref p))) (h2 : W[i]? = some [p]) (g : H p = some (.lst vs)) (l : ws.length ≤ LIM) (q : Rps K (Mof W T) T H ys ws) :
    ∃ W', W'.length = W.length ∧ (∀ k, k ≠ i → k < ρ.length → W'[k]? = W[k]?) ∧ W'[i]? = some [p] ∧ (∀ a, Mof W' T a → Mof W T a) ∧ SR K (setE ρ i (some (.o1 ys))) W' T σ (upd H p (.lst ws)) ts ∧ StepS T W H W' (upd H p (.lst ws)) := by
  have hi := s.ilt e
  have hih : i ≠ W.length := by have := s.lw; omega
  have hil := (List.getElem?_eq_some_iff.mp h2).1
  have inP : Mof W T p := .inr (mem_flat h2 (by simp))
  have hm : ∀ a, Mof (chW W i W.length [p]) T a → Mof W T a := fun a z => by
    rcases z with z | z
    · exact .inl z
    · exact .inr (chW_mem (B := []) h2 (fun a ha => by simp at ha) hih (fun a ha => .inl ha) z)
  obtain ⟨q1, q2⟩ := s.chg (r := .o1 ys) (v := .ref p) (H1 := upd H p (.lst ws)) (A' := [p]) (B := []) hi s.lw h2 (fun a ha => by simp at ha) (fun a o ga n => by
    rw [upd_ne (fun z => n (by simp [z]))]; exact ga) (fun a ha => .inl ha) (by simp) (fun a ha => by rw [List.mem_singleton.mp ha]; exact ⟨ws, upd_same⟩)
    ⟨p, ws, rfl, rfl, upd_same, l, Rps.imp (fun a o ga n => ⟨by rw [upd_ne (fun z => n (by rw [z]; exact inP))]; exact ga, fun z => n (hm a z)⟩) q⟩
  rw [set_same h1] at q1
  exact ⟨_, chW_len, fun k hk hkl => chW_at hk (by have := s.lw; omega), chW_i hil hih, hm, q1, q2⟩
theorem i_app (h : tS K F (.app i t) D σ H) : tVar i σ H fun x H0 => ∃ p, x = .ref p ∧ (∃ vs, H0 p = some (.lst vs)) ∧ tE K F t σ H0 fun y H1 => ∃ vs, H1 p = some (.lst vs) ∧ vs.length < sizeLine ∧ D.nx σ (upd H1 p (.lst (vs ++ [y]))) := by
  obtain ⟨ρ, W, T, ts, o, ts', s, e, x⟩ := h
  simp only [ex] at e
  split at e
  · rename_i v ts1 e1
    split at e
    · rename_i xs e2
      split at e
      · rename_i hl
        simp only [Option.some.injEq, Prod.mk.injEq] at e
        obtain ⟨rfl, rfl⟩ := e
        obtain ⟨w, A, h1, h2, p, vs, rfl, rfl, g, l, q⟩ := s.slot i _ e2
        refine ⟨.ref p, h1, p, rfl, ⟨vs, g⟩, ρ, W, T, ts, v, ts1, s, e1, fun y H1 A1 st re => ?_⟩
        have s1 := s.step st
        have g1 : H1 p = some (.lst vs) := st.keep p _ g (s.nT p (mem_flat h2 (by simp)))
        have q1 : Rps K (Mof W T) T H1 xs vs := keepMs st hTM q
        have hv := q1.length
        obtain ⟨W', _, _, _, _, q2, q3⟩ := s1.mut1 (ys := xs ++ [v.fz]) (ws := vs ++ [y]) e2 h1 h2 g1 (by simp; omega) (q1.append (Rps.one (re.fz s.live)))
        exact ⟨vs, g1, by have := sizeLim; omega, x σ _ W' ((Step.s st).trans q3) q2⟩
      · simp at e
    · simp at e
  · simp at e
theorem i_apop (h : tS K F (.apop i j t) D σ H) : tVar i σ H fun x H0 => ∃ p, x = .ref p ∧ (∃ vs, H0 p = some (.lst vs)) ∧ tVar j σ H0 fun y H1 => ∃ p2, y = .ref p2 ∧ (∃ ws, H1 p2 = some (.lst ws)) ∧ tE K F t σ H1 fun z H2 => ∃ ws n m w, z = .int n ∧ H2 p2 = some (.lst ws) ∧ ixN ws.length n = some m ∧ ws.length ≤ LIM ∧ ws[m]? = some w ∧
    ∃ vs, (upd H2 p2 (.lst (ws.eraseIdx m))) p = some (.lst vs) ∧ vs.length < sizeLine ∧ D.nx σ (upd (upd H2 p2 (.lst (ws.eraseIdx m))) p (.lst (vs ++ [w]))) := by
  obtain ⟨ρ, W, T, ts, o, ts', s, e, x⟩ := h
  simp only [ex] at e
  split at e
  · rename_i n ts1 e1
    split at e
    · rename_i xs ys e2 e3
      split at e
      · rename_i m e4
        split at e
        · rename_i yv e5
          split at e
          · rename_i hl
            simp only [Option.some.injEq, Prod.mk.injEq] at e
            obtain ⟨rfl, rfl⟩ := e
            obtain ⟨hl, hij⟩ := hl
            obtain ⟨w, A, h1, h2, p, vs, rfl, rfl, g, l, q⟩ := s.slot i _ e2
            obtain ⟨w2, A2, k1, k2, p2, us, rfl, rfl, g2, l2, q2⟩ := s.slot j _ e3
            refine ⟨.ref p, h1, p, rfl, ⟨vs, g⟩, .ref p2, k1, p2, rfl, ⟨us, g2⟩, ρ, W, T, ts, _, ts1, s, e1, fun z H1 A1 st re => ?_⟩
            cases (show z = .int n from re.sl)
            have s1 := s.step st
            have g1 : H1 p = some (.lst vs) := st.keep p _ g (s.nT p (mem_flat h2 (by simp)))
            have g3 : H1 p2 = some (.lst us) := st.keep p2 _ g2 (s.nT p2 (mem_flat k2 (by simp)))
            have r1 : Rps K (Mof W T) T H1 xs vs := keepMs st hTM q
            have r2 : Rps K (Mof W T) T H1 ys us := keepMs st hTM q2
            have hpp : p ≠ p2 := fun z => (flat_nd.mp s.nd).2 i j [p] [p2] p hij h2 k2 (by simp) (by simp [z])
            obtain ⟨w, e6, e7⟩ := r2.get e5
            have hul := r2.length
            have hvl := r1.length
            obtain ⟨W', wl, wk, wj, wM, q3, t3⟩ := s1.mut1 (ys := ys.eraseIdx m) (ws := us.eraseIdx m) e3 k1 k2 g3 (Nat.le_trans (List.length_eraseIdx_le _ _) l2) (r2.erase m)
            have hiW : W'[i]? = some [p] := by rw [wk i hij (s.ilt e2)]; exact h2
            have e2' : getE (setE ρ j (some (.o1 (ys.eraseIdx m)))) i = some (.o1 xs) := by
              rw [getE_set, if_neg fun z => hij z.1]
              exact e2
            have up : ∀ a o, H1 a = some o → ¬ Mof W T a → upd H1 p2 (.lst (us.eraseIdx m)) a = some o ∧ ¬ Mof W' T a := fun a o ga n => ⟨by
              rw [upd_ne fun z => n (by rw [z]; exact .inr (mem_flat k2 (by simp)))]; exact ga, fun z => n (wM a z)⟩
            have g4 : upd H1 p2 (.lst (us.eraseIdx m)) p = some (.lst vs) := by rw [upd_ne hpp]; exact g1
            obtain ⟨W2, _, _, _, _, q5, t5⟩ := q3.mut1 (ys := xs ++ [yv]) (ws := vs ++ [w]) e2' h1 hiW g4 (by simp; omega) ((Rps.imp up r1).append (Rps.one (Rp.imp up e7)))
            exact ⟨us, n, m, w, rfl, g3, by rw [hul]; exact e4, l2, e6, vs, g4, by have := sizeLim; omega, x σ _ W2 (((Step.s st).trans t3).trans t5) q5⟩
          · simp at e
        · simp at e
      · simp at e
    · simp at e
  · simp at e
end
end Lt

namespace Lt
open PySem PySem.Spec PyProof.Rows L2
theorem paired_ix {α β : Type} {G : α → β → Prop} : ∀ {l : List α} {m : List β}, Paired G l m ↔ (l.length = m.length ∧ ∀ (n : Nat) (a : α) (b : β), l[n]? = some a → m[n]? = some b → G a b)
  | [], [] => ⟨fun _ => ⟨rfl, fun n a b h => by simp at h⟩, fun _ => .nil⟩
  | [], _ :: _ => ⟨fun h => (nomatch h), fun h => by simp at h⟩
  | _ :: _, [] => ⟨fun h => (nomatch h), fun h => by simp at h⟩
  | x :: l, y :: m => by
    constructor
    · intro h
      cases h with
      | cons h1 h2 =>
        obtain ⟨e1, e2⟩ := paired_ix.mp h2
        refine ⟨by simp [e1], fun n a b ha hb => ?_⟩
        cases n with
        | zero => simp at ha hb; subst ha hb; exact h1
        | succ n => exact e2 n a b (by simpa using ha) (by simpa using hb)
    · rintro ⟨e1, e2⟩
      exact .cons (e2 0 x y rfl rfl) (paired_ix.mpr ⟨by simpa using e1, fun n a b ha hb => e2 (n + 1) a b (by simpa using ha) (by simpa using hb)⟩)
section
variable {K : PySem.W.Frag} {F : FT} {ρ : Env} {W W1 W2 : List (List Addr)} {T : Option Addr} {σ : L2.St} {H H1 H2 H' : Hp} {ts ts1 ts2 ts' : Tin} {i j k h : Nat} {A B A' : List Addr} {v : V} {r r' : R} {D : Ends} {o : Out} {a b c t e : Tm} {s1 s2 : Stm} {tg : Tg} {it : Tm}
theorem nodup_set : ∀ {as : List Addr} {m : Nat} {b : Addr}, as.Nodup → b ∉ as → (as.set m b).Nodup
  | [], _, _, h, _ => h
  | a :: as, 0, b, h, n => List.nodup_cons.mpr ⟨fun z => n (by simp [z]), (List.nodup_cons.mp h).2⟩
  | a :: as, m + 1, b, h, n => by
    obtain ⟨h1, h2⟩ := List.nodup_cons.mp h
    refine List.nodup_cons.mpr ⟨fun z => ?_, nodup_set h2 fun z => n (by simp [z])⟩
    rcases List.mem_or_eq_of_mem_set z with z | z
    · exact h1 z
    · exact n (by simp [z])
def LL (K : PySem.W.Frag) (M : Addr → Prop) (T : Option Addr) (H : Hp) : Addr → List Lt.D → Prop := fun b xs => ∃ vs, H b = some (.lst vs) ∧ vs.length ≤ LIM ∧ Rps K M T H xs vs
theorem map_set_ref {as : List Addr} {b : Addr} {m : Nat} : (as.map V.ref).set m (V.ref b) = (as.set m b).map V.ref := by rw [List.map_set]
theorem ixN_lt {n : Nat} {z : Int} {m : Nat} (h : ixN n z = some m) : m < n := (ixN_seq h).2.1
theorem i_app2 (h : tS K F (.app2 i e t) D σ H) : tVar i σ H fun x H0 => tE K F e σ H0 fun y H1 => rIxK K x y H1 fun z H1' => ∃ p, z = .ref p ∧ (∃ vs, H1' p = some (.lst vs)) ∧ tE K F t σ H1' fun u H2 => ∃ vs, H2 p = some (.lst vs) ∧ vs.length < sizeLine ∧ D.nx σ (upd H2 p (.lst (vs ++ [u]))) := by
  obtain ⟨ρ, W, T, ts, o, ts', s, ee, x⟩ := h
  simp only [ex] at ee
  split at ee
  · rename_i n ts1 e1
    split at ee
    · rename_i v ts2 e2
      split at ee
      · rename_i xss e3
        split at ee
        · rename_i m e4
          split at ee
          · rename_i xs e5
            split at ee
            · rename_i hl
              simp only [Option.some.injEq, Prod.mk.injEq] at ee
              obtain ⟨rfl, rfl⟩ := ee
              obtain ⟨w, A, h1, h2, q, as, rfl, rfl, g, l, P⟩ := s.slot i _ e3
              obtain ⟨pl, pix⟩ := paired_ix.mp P
              have hma : m < as.length := by rw [pl]; exact ixN_lt e4
              obtain ⟨b, hb⟩ : ∃ b, as[m]? = some b := ⟨_, List.getElem?_eq_getElem hma⟩
              obtain ⟨vs, gb, lb, qb⟩ := pix m b xs hb e5
              have hbA : b ∈ q :: as := by simp [List.mem_of_getElem? hb]
              refine ⟨.ref q, h1, ρ, W, T, ts, _, ts1, s, e1, fun y H1 A1 st1 re1 => ?_⟩
              cases (show y = .int n from re1.sl)
              have s1 := s.step st1
              have gq : H1 q = some (.lst (as.map .ref)) := st1.keep q _ g (s.nT q (mem_flat h2 (by simp)))
              have gb1 : H1 b = some (.lst vs) := st1.keep b _ gb (s.nT b (mem_flat h2 hbA))
              refine .inl ⟨q, as.map .ref, n, .ref b, rfl, rfl, SqL.of gq, ?_, b, rfl, ⟨vs, gb1⟩, ρ, W, T, ts1, v, ts2, s1, e2, fun u H2 A2 st2 re2 => ?_⟩
              · unfold atI
                rw [List.length_map, pl, e4]
                simp [hb]
              have s2 := s1.step st2
              have gb2 : H2 b = some (.lst vs) := st2.keep b _ gb1 (s.nT b (mem_flat h2 hbA))
              have gq2 : H2 q = some (.lst (as.map .ref)) := st2.keep q _ gq (s.nT q (mem_flat h2 (by simp)))
              have hi := s.ilt e3
              have hih : i ≠ W.length := by have := s.lw; omega
              have ndA := (flat_nd.mp s.nd).1 i _ h2
              have hqb : q ≠ b := fun z => (List.nodup_cons.mp ndA).1 (by rw [z]; exact List.mem_of_getElem? hb)
              have hm : ∀ a, Mof (chW W i W.length (q :: as)) T a → Mof W T a := fun a z => by
                rcases z with z | z
                · exact .inl z
                · exact .inr (chW_mem (B := []) h2 (fun a ha => by simp at ha) hih (fun a ha => .inl ha) z)
              have inB : Mof W T b := .inr (mem_flat h2 hbA)
              have up : ∀ a o, H2 a = some o → ¬ Mof W T a → upd H2 b (.lst (vs ++ [u])) a = some o ∧ ¬ Mof (chW W i W.length (q :: as)) T a := fun a o ga n => ⟨by rw [upd_ne fun z => n (by rw [z]; exact inB)]; exact ga, fun z => n (hm a z)⟩
              have hvl := qb.length
              have stA := st1.trans st2
              obtain ⟨q1, q2⟩ := s2.chg (r := .o2 (xss.set m (xs ++ [v.fz]))) (v := .ref q) (H1 := upd H2 b (.lst (vs ++ [u]))) (A' := q :: as) (B := []) hi s.lw h2 (fun a ha => by simp at ha) (fun a o ga n => by
                rw [upd_ne fun z => n (by rw [z]; exact hbA)]; exact ga) (fun a ha => .inl ha) ndA (fun a ha => by
                  by_cases hab : a = b
                  · subst hab; exact ⟨_, upd_same⟩
                  · rw [upd_ne hab]; exact s2.lv a (mem_flat h2 ha))
                ⟨q, as, rfl, rfl, by rw [upd_ne hqb]; exact gq2, l, paired_ix.mpr ⟨by simp [pl], fun m' a' zs ha' hz => by
                  by_cases hmm : m' = m
                  · subst hmm
                    rw [hb] at ha'
                    cases ha'
                    rw [List.getElem?_set_self (by rw [← pl]; exact hma)] at hz
                    cases hz
                    exact ⟨vs ++ [u], upd_same, by simp; omega, Rps.imp up ((keepMs stA hTM qb).append (Rps.one (re2.fz s1.live)))⟩
                  · rw [List.getElem?_set_ne (Ne.symm hmm)] at hz
                    obtain ⟨ws, gw, lw, qw⟩ := pix m' a' zs ha' hz
                    have hab : a' ≠ b := fun z => by
                      subst z
                      have hnd := (List.nodup_cons.mp ndA).2
                      exact hmm ((List.getElem?_inj (List.getElem?_eq_some_iff.mp ha').1 hnd).mp (ha'.trans hb.symm))
                    have haA : a' ∈ q :: as := by simp [List.mem_of_getElem? ha']
                    exact ⟨ws, by rw [upd_ne hab]; exact stA.keep a' _ gw (s.nT a' (mem_flat h2 haA)), lw, Rps.imp up (keepMs stA hTM qw)⟩⟩⟩
              rw [set_same h1] at q1
              exact ⟨vs, gb2, by have := sizeLim; omega, x σ _ _ ((Step.s stA).trans q2) q1⟩
            · simp at ee
          · simp at ee
        · simp at ee
      · simp at ee
    · simp at ee
  · simp at ee
theorem i_sto (h : tS K F (.sto i e t) D σ H) : tAsg (tE K F t) (gSub (tVar i) (tE K F e) rSetL) D σ H := by
  obtain ⟨ρ, W, T, ts, o, ts', s, ee, x⟩ := h
  simp only [ex] at ee
  split at ee
  · rename_i v ts1 e1
    split at ee
    · rename_i n ts2 e2
      split at ee
      · rename_i e3
        -- the source
        split at ee
        · rename_i z
          obtain ⟨m, e4, e5⟩ := Option.map_eq_some_iff.mp ee
          simp only [Prod.mk.injEq] at e5
          obtain ⟨rfl, rfl⟩ := e5
          obtain ⟨w, A, h1, h2, p, hT, rfl⟩ := s.slot i _ e3
          refine ⟨ρ, W, T, ts, _, ts1, s, e1, fun u H1 A1 st1 re1 => ⟨.ref p, h1, ρ, W, T, ts1, _, ts2, s.step st1, e2, fun y H2 A2 st2 re2 => ?_⟩⟩
          cases (show u = .int z from re1.sl)
          cases (show y = .int n from re2.sl)
          have s2 := (s.step st1).step st2
          have t2 := s2.tin
          rw [hT] at t2
          obtain ⟨g, l⟩ := t2
          refine ⟨p, ts2.map .int, n, m, rfl, rfl, g, by rw [List.length_map]; exact e4, ?_⟩
          have inP : Mof W T p := .inl hT
          have up : ∀ a o, H2 a = some o → ¬ Mof W T a → upd H2 p (.lst ((ts2.map V.int).set m (.int z))) a = some o ∧ ¬ Mof W T a := fun a o ga n => ⟨by rw [upd_ne fun z => n (by rw [z]; exact inP)]; exact ga, n⟩
          refine x σ _ W ((Step.s (st1.trans st2)).trans ⟨up⟩) ⟨s2.ls, s2.lw, fun k q hq => ?_, s2.nd, s2.nT, fun a ha => ?_, ?_⟩
          · obtain ⟨u, C, c1, c2, c3⟩ := s2.slot k q hq
            refine ⟨u, C, c1, c2, c3.imp up fun a ha o g => ?_⟩
            rw [upd_ne fun z => s2.nT a (mem_flat c2 ha) (by rw [z]; exact hT)]
            exact g
          · obtain ⟨vs, g⟩ := s2.lv a ha
            refine ⟨vs, ?_⟩
            rw [upd_ne fun z => s2.nT a ha (by rw [z]; exact hT)]
            exact g
          · rw [hT]
            refine ⟨?_, by rw [List.length_set]; exact l⟩
            rw [upd_same, List.map_set]
        · simp at ee
      · rename_i r0 hnt e3
        obtain ⟨r', e4, e5⟩ := Option.map_eq_some_iff.mp ee
        simp only [Prod.mk.injEq] at e5
        obtain ⟨rfl, rfl⟩ := e5
        unfold stoR at e4
        split at e4
        · rename_i xs
          obtain ⟨m, e6, rfl⟩ := Option.map_eq_some_iff.mp e4
          obtain ⟨w, A, h1, h2, p, vs, rfl, rfl, g, l, q⟩ := s.slot i _ e3
          refine ⟨ρ, W, T, ts, _, ts1, s, e1, fun u H1 A1 st1 re1 => ⟨.ref p, h1, ρ, W, T, ts1, _, ts2, s.step st1, e2, fun y H2 A2 st2 re2 => ?_⟩⟩
          cases (show y = .int n from re2.sl)
          have s2 := (s.step st1).step st2
          have stA := st1.trans st2
          have g2 : H2 p = some (.lst vs) := stA.keep p _ g (s.nT p (mem_flat h2 (by simp)))
          have q2 : Rps K (Mof W T) T H2 xs vs := keepMs stA hTM q
          have ru : Rp K (Mof W T) T H2 v.fz u := keepM st2 hTM (re1.fz s.live)
          obtain ⟨W', _, _, _, _, q3, t3⟩ := s2.mut1 (ys := xs.set m v.fz) (ws := vs.set m u) e3 h1 h2 g2 (by rw [List.length_set]; exact l) (q2.set ru)
          exact ⟨p, vs, n, m, rfl, rfl, g2, by rw [q2.length]; exact e6, x σ _ W' ((Step.s stA).trans t3) q3⟩
        · rename_i xss
          split at e4
          · rename_i ys
            obtain ⟨m, e6, rfl⟩ := Option.map_eq_some_iff.mp e4
            obtain ⟨w, A, h1, h2, q, as, rfl, rfl, g, l, P⟩ := s.slot i _ e3
            obtain ⟨pl, pix⟩ := paired_ix.mp P
            refine ⟨ρ, W, T, ts, _, ts1, s, e1, fun u H1 A1 st1 re1 => ?_⟩
            obtain ⟨b, us, rfl, eA, gb, lb, qb⟩ := re1.sl
            subst eA
            have s1 := s.ext st1 re1.fr re1.nd
            refine ⟨.ref q, h1, ρ, W ++ [[b]], T, ts1, _, ts2, s1, e2, fun y H2 A2 st2 re2 => ?_⟩
            cases (show y = .int n from re2.sl)
            have s2 := s1.step st2
            have stA := st1.trans st2
            have g2 : H2 q = some (.lst (as.map .ref)) := stA.keep q _ g (s.nT q (mem_flat h2 (by simp)))
            have hi := s.ilt e3
            have hwl := s.lw
            have h2' : (W ++ [[b]])[i]? = some (q :: as) := by rw [List.getElem?_append_left (by omega)]; exact h2
            have hhb : (W ++ [[b]])[W.length]? = some [b] := by simp
            have ndA := (flat_nd.mp s.nd).1 i _ h2
            have hbn : ∀ {a o}, H a = some o → a ≠ b := fun {a o} ga z => by rw [z, (re1.fr b (by simp)).1] at ga; cases ga
            have hih : i ≠ W.length := by omega
            have hma : m < as.length := by rw [pl]; exact ixN_lt e6
            have live : ∀ a ∈ q :: as, H a ≠ none := fun a ha => by
              obtain ⟨ws, gw⟩ := s.lv a (mem_flat h2 ha)
              rw [gw]; simp
            have hbA : b ∉ q :: as := fun z => live b z (re1.fr b (by simp)).1
            have sub : ∀ a ∈ q :: as.set m b, a ∈ q :: as ∨ a ∈ [b] := fun a ha => by
              rcases List.mem_cons.mp ha with z | z
              · exact .inl (by simp [z])
              · rcases List.mem_or_eq_of_mem_set z with z | z
                · exact .inl (by simp [z])
                · exact .inr (by simp [z])
            have ndA' : (q :: as.set m b).Nodup := by
              obtain ⟨n1, n2⟩ := List.nodup_cons.mp ndA
              refine List.nodup_cons.mpr ⟨fun z => ?_, ?_⟩
              · rcases List.mem_or_eq_of_mem_set z with z | z
                · exact n1 z
                · exact hbA (by simp [z])
              · exact nodup_set n2 fun z => hbA (by simp [z])
            have hB2 : ∀ a ∈ [b], ∃ C, (W ++ [[b]])[W.length]? = some C ∧ a ∈ C := fun a ha => ⟨[b], hhb, ha⟩
            have hm : ∀ a, Mof (chW (W ++ [[b]]) i W.length (q :: as.set m b)) T a → Mof (W ++ [[b]]) T a := fun a z => by
              rcases z with z | z
              · exact .inl z
              · exact .inr (chW_mem (B := [b]) h2' hB2 hih sub z)
            have inQ : Mof (W ++ [[b]]) T q := .inr (mem_flat h2' (by simp))
            have up : ∀ a o, H2 a = some o → ¬ Mof (W ++ [[b]]) T a → upd H2 q (.lst ((as.set m b).map .ref)) a = some o ∧ ¬ Mof (chW (W ++ [[b]]) i W.length (q :: as.set m b)) T a := fun a o ga n => ⟨by rw [upd_ne fun z => n (by rw [z]; exact inQ)]; exact ga, fun z => n (hm a z)⟩
            have up0 : ∀ a o, H a = some o → ¬ Mof W T a → H2 a = some o ∧ ¬ Mof (W ++ [[b]]) T a := fun a o ga n => ⟨stA.keep a o ga fun z => n (.inl z), fun z => by
              rcases Mof_app.mp z with z | z
              · exact n z
              · exact hbn ga (by simpa using z)⟩
            have hbq : b ≠ q := fun z => hbA (by simp [z])
            obtain ⟨q3, t3⟩ := s2.chg (r := .o2 (xss.set m ys)) (v := .ref q) (H1 := upd H2 q (.lst ((as.set m b).map .ref))) (A' := q :: as.set m b) (B := [b]) hi hwl h2' hB2 (fun a o ga n => by
              rw [upd_ne fun z => n (by simp [z])]; exact ga) sub ndA' (fun a ha => by
                by_cases haq : a = q
                · subst haq; exact ⟨_, upd_same⟩
                · rw [upd_ne haq]
                  rcases sub a ha with z | z
                  · exact s2.lv a (mem_flat h2' z)
                  · exact s2.lv a (mem_flat hhb z))
              ⟨q, as.set m b, rfl, rfl, upd_same, by rw [List.length_set]; exact l, paired_ix.mpr ⟨by simp [pl], fun m' a' zs ha' hz => by
                by_cases hmm : m' = m
                · subst hmm
                  rw [List.getElem?_set_self hma] at ha'
                  cases ha'
                  rw [List.getElem?_set_self (by rw [← pl]; exact hma)] at hz
                  cases hz
                  refine ⟨us, by rw [upd_ne hbq]; exact st2.keep b _ gb (re1.fr b (by simp)).2.1, lb, Rps.imp up (Rps.imp (fun a o ga n => ⟨st2.keep a o ga fun z => n (.inl (.inl z)), fun z => n (Mof_app.mp z)⟩) qb)⟩
                · rw [List.getElem?_set_ne (Ne.symm hmm)] at hz ha'
                  obtain ⟨ws, gw, lw, qw⟩ := pix m' a' zs ha' hz
                  have haA : a' ∈ q :: as := by simp [List.mem_of_getElem? ha']
                  have haq : a' ≠ q := fun z => (List.nodup_cons.mp ndA).1 (by rw [← z]; exact List.mem_of_getElem? ha')
                  exact ⟨ws, by rw [upd_ne haq]; exact stA.keep a' _ gw (s.nT a' (mem_flat h2 haA)), lw, Rps.imp up (Rps.imp up0 qw)⟩⟩⟩
            rw [set_same h1] at q3
            refine ⟨q, as.map .ref, n, m, rfl, rfl, g2, by rw [List.length_map, pl]; exact e6, ?_⟩
            rw [map_set_ref]
            exact x σ _ _ (((StepS.ext st1 fun b hb => (re1.fr b hb).1).trans (Step.s st2)).trans t3) q3
          · simp at e4
        · simp at e4
      · simp at ee
    · simp at ee
  · simp at ee
theorem i_for (h : tS K F (.for_ tg it s1) D σ H) : tFor (tI K F it) (tG K tg) (tS K F s1) D σ H := by
  obtain ⟨ρ, W, T, ts, o, ts', s, ee, x⟩ := h
  simp only [ex] at ee
  split at ee
  · rename_i xs ts1 e1
    refine ⟨ρ, W, T, ts, xs, ts1, s, e1, fun J Z H1 st1 itr hZ => ?_⟩
    have x1 := x.back (Step.s st1)
    generalize hf : (fun ρ x ts => match setTg ρ tg x with
      | some ρ1 => ex F s1 ρ1 ts
      | none => none : Env → Lt.D → Ev Out) = f at ee
    refine ⟨fun n m σ' Hh => m = xs.length - n ∧ n ≤ xs.length ∧ ∃ ρ' W' tsn, StepS T W H1 W' Hh ∧ SR K ρ' W' T σ' Hh tsn ∧ forL f (xs.drop n) ρ' tsn = some (o, ts'), ⟨xs.length, by simp, Nat.zero_le _, ρ, W, ts1, .refl, s.step st1, by simpa using ee⟩, ?_⟩
    rintro n m σ' Hh ⟨rfl, hn, ρ', W', tsn, sp, s', e2⟩
    have hZ' : ∀ p ∈ Z, Rp K (Mof W' T) T Hh p.2 p.1 := fun p hp => Rp.imp sp.keep (hZ p hp)
    by_cases hlt : n < xs.length
    · have hx : xs[n]? = some xs[n] := by simp [hlt]
      rw [List.drop_eq_getElem_cons hlt] at e2
      simp only [forL] at e2
      refine .inr ⟨itr.goes _ _ _ n hZ' hlt, fun σ'' H'' => _, fun σ'' H'' z => ⟨xs.length - (n + 1), by omega, z⟩, fun y H2 hy => ?_⟩
      obtain ⟨hH2, hr⟩ := itr.yields _ _ _ n y H2 _ s'.live hZ' hx hy
      have sty := step_yld s'.tin hH2
      have s2 := s'.step sty
      have hfx : f ρ' xs[n] tsn = match setTg ρ' tg xs[n] with
        | some ρ1 => ex F s1 ρ1 tsn
        | none => none := by rw [← hf]
      cases e3 : setTg ρ' tg xs[n] with
      | none =>
        rw [e3] at hfx
        rw [hfx] at e2
        simp at e2
      | some ρ1 =>
        rw [e3] at hfx
        simp only at hfx
        rw [hfx] at e2
        refine setTg_ok s2 hr e3 fun σ2 _ _ s3 => ?_
        cases e4 : ex F s1 ρ1 tsn with
        | none => rw [e4] at e2; simp at e2
        | some q =>
          obtain ⟨o1, tsm⟩ := q
          rw [e4] at e2
          refine ⟨ρ1, W', T, tsn, o1, tsm, s3, e4, ?_⟩
          cases o1 with
          | nx ρ2 => exact fun σ3 H3 W3 st3 s4 => ⟨rfl, by omega, ρ2, W3, tsm, (sp.trans (Step.s sty)).trans st3, s4, e2⟩
          | rt r =>
            simp only [Option.some.injEq, Prod.mk.injEq] at e2
            obtain ⟨rfl, rfl⟩ := e2
            exact x1.back (sp.trans (Step.s sty))
    · have hi2 : n = xs.length := by omega
      subst hi2
      rw [List.drop_length] at e2
      simp only [forL, Option.some.injEq, Prod.mk.injEq] at e2
      obtain ⟨rfl, rfl⟩ := e2
      exact .inl ⟨itr.stops _ _ _ hZ', x1 σ' Hh W' sp s'⟩
  · simp at ee
end
end Lt

namespace Lt
open PySem PySem.Spec PyProof.Rows L2

/-! ### len(set(t)), t a tuple of unlike texts -/
section
variable {P : Program} {w : World} {A : Around} {E : Value → Shared → Prop}
theorem sets_loop {I : Addr} {fp wr : List Addr} {G : Array GenState → Array GenState → Prop} {n : Nat} {Pv : Nat → Value → Prop} {St : Nat → Shared → Prop} {R : Result → Shared → Prop}
    (Wk : WalksS P w A.in1 I fp wr G n Pv St) (S : Addr) (hSf : S ∉ fp) (ks : List Str) (hn : n = ks.length) (nd : ks.Nodup) (hb : ks.length + 1 < scanBound) (hval : ∀ i v, Pv i v → ∃ k t, ks[i]? = some k ∧ v = .str k t) :
    ∀ (d i : Nat) (s : Shared), n - i = d → i ≤ n → St i s → s.heap.SetOf (strKind P w) S (fun z => decide (z ∈ ks.take i)) i →
      (∀ s', Moved (S :: wr) G s s' → s'.heap.SetOf (strKind P w) S (fun z => decide (z ∈ ks)) n → R (.ok (.ret .none)) s') →
      codeAny (model P w) A (.builtin "set.update.loop" ⟨[.ref S, .ref I], []⟩) R s := by
  have hSw : S ∉ wr := fun h => hSf (Wk.sub _ h)
  have up : ∀ b ∈ wr, b ∈ S :: wr := fun b hb => List.mem_cons_of_mem _ hb
  have mv : ∀ {s s' : Shared} {g : Str → Bool} {m : Nat}, Moved wr G s s' → s.heap.SetOf (strKind P w) S g m → s'.heap.SetOf (strKind P w) S g m := fun hm ⟨o, es, ep, t, ho, rest⟩ => ⟨o, es, ep, t, hm.heap S o hSw ho, rest⟩
  intro d
  induction d with
  | zero =>
    intro i s hd hi st hS fin
    have e : i = n := by omega
    refine codeAny_builtin PyProof.Rows.F.entry_set_update_loop ?_
    rw [Around.under_plainId PyProof.Rows.F.plain_set_update_loop _]
    show wpAny _ A.in1 (pyNext (.ref I) >>= _) _ _ s
    subst e
    refine wpAny_bind (Wk.done s _ _ st fun s' hm => wpAny_pure (fin s' (hm.mono up) ?_))
    have q := mv hm hS
    rw [List.take_of_length_le (by omega)] at q
    exact q
  | succ d ih =>
    intro i s hd hi st hS fin
    refine codeAny_builtin PyProof.Rows.F.entry_set_update_loop ?_
    rw [Around.under_plainId PyProof.Rows.F.plain_set_update_loop _]
    show wpAny _ A.in1 (pyNext (.ref I) >>= _) _ _ s
    refine wpAny_bind (Wk.item i s _ _ (by omega) st fun v s' hP st' hm => ?_)
    obtain ⟨z, t, hz, rfl⟩ := hval i v hP
    have hzl := List.getElem?_eq_some_iff.mp hz
    show wpAny _ A.in1 (holding [Value.str z t] (setAdd S (.str z t)) >>= _) _ _ s'
    refine wpAny_bind (wpAny_holding ?_)
    unfold setAdd
    have hS' : s'.heap.SetOf (strKind P w) S (fun z => decide (z ∈ ks.take i)) i := mv hm hS
    refine wpAny_holding (wpAny_bind ((strKind P w).pyHash (k := z) (strKind_is _ _ _ _) ?_))
    refine wpAny_setAddHashed_of (knd := strKind P w) (s := { s' with toks := s'.toks + 1 }) (strKind_is _ _ _ _) rfl hS' (by omega) fun h' hsb hS2 => ?_
    have new : z ∉ ks.take i := fun h => by
      obtain ⟨j, hj⟩ := List.mem_iff_getElem?.mp h
      rw [List.getElem?_take] at hj
      split at hj
      · rename_i hji
        have hjl := List.getElem?_eq_some_iff.mp hj
        have := (List.getElem?_inj hjl.1 nd).mp (hj.trans hz.symm)
        omega
      · cases hj
    have hS3 : h'.SetOf (strKind P w) S (fun q => decide (q ∈ ks.take (i + 1))) (i + 1) := SetOf_congr hS2 (fun q => by
      rw [List.take_add_one, hz]
      simp [List.mem_append]) (by simp [new])
    refine wpAny_pure ⟨plainId_quiet PyProof.Rows.F.plain_set_update_loop _, ih (i + 1) _ (by omega) (by omega) (Wk.frame _ s' _ _ st' (Nat.le_succ _) fun b hb o e => ?_) hS3 fun s2 hm2 q => ?_⟩
    · rw [hsb.2 b fun z => hSf (by rw [← z]; exact hb)]; exact e
    · refine fin s2 (Moved.trans Wk.gtrans ((hm.mono up).then_heap (Nat.le_succ _) fun b o hb e => ?_) hm2) q
      rw [hsb.2 b fun z => hb (by rw [z]; exact List.mem_cons_self)]; exact e
set_option maxRecDepth 100000 in
set_option maxHeartbeats 3200000 in
theorem sets_call {s : Shared} {l : Addr} {items : Array Value} (ks : List Str) {Q : Value → Shared → Prop} (hh : A.handled = none) (hl : s.heap.IsTuple l items) (hit : PyProof.Rows.StrsAre items.toList ks) (nd : ks.Nodup) (hb : ks.length + 1 < scanBound)
    (h : ∀ (h' : Heap) (tk : Nat), h'.SetOf (strKind P w) s.heap.objs.size (fun z => decide (z ∈ ks)) ks.length → (∀ b o, s.heap.get? b = some o → h'.get? b = some o) → Q (.ref s.heap.objs.size) { s with heap := h', toks := tk }) :
    wpAny (model P w) A (call (.type "set") [.ref l]) Q E s := by
  have hz : items.size = ks.length := by rw [← Array.length_toList]; exact StrsAre.len_eq hit
  have hval : ∀ (i : Nat) (v : Value), items[i]? = some v → ∃ k t, ks[i]? = some k ∧ v = .str k t := fun i v hv => by
    have hi : i < ks.length := by rw [← hz]; exact (Array.getElem?_eq_some_iff.mp hv).1
    obtain ⟨t, e⟩ := SS.strs_at hit i v (by rw [Array.getElem?_toList]; exact hv)
    refine ⟨ks[i], t, List.getElem?_eq_getElem hi, ?_⟩
    rw [e, List.getD_eq_getElem?_getD, List.getElem?_eq_getElem hi] <;> rfl
  obtain ⟨c, tl, hmro⟩ := PySem.F.called_set.mro
  have hmade := PySem.F.called_set.made
  have hsub := PySem.F.called_set.sub
  refine wpAny_call (codeAny_of_tree ?_)
  show wpAny _ _ (callAny (.type "set") _) _ _ _
  refine wpAny_pure ⟨Code.quiet_builtin _ (by decide +kernel), codeAny_builtin PySem.F.entry_type_call ?_⟩
  rw [Around.under_plain (weight_type_call_type "set" [.ref l] []) rfl]
  have h1 := PySem.F.called_set.notType
  have h2 := PySem.F.called_set.canCreate
  have hct := PySem.F.typeCall_set_1 (.ref l)
  repeat (any_goals (first | assumption | wp_step))
  refine codeAny_mono (code_set_new_1 (.ref l) (E := E) (Q₁ := fun obj s₁ => ∃ led : Bool, obj = .ref s.heap.objs.size ∧ s₁ = { s with heap := s.heap.push { cls := .type "set", dict := none, data := .set #[] 0 (.fresh 0 0 led) } }) fun led => ⟨led, rfl, rfl⟩) fun r s₁ hr => ?_
  rcases r with e | fl
  · exact hr
  rcases fl with _ | _ | _ | obj
  all_goals first | exact hr.elim | skip
  obtain ⟨led, rfl, rfl⟩ := hr
  generalize hob : ({ cls := .type "set", dict := none, data := .set #[] 0 (.fresh 0 0 led) } : Obj) = ob
  have hS : (s.heap.push ob).get? s.heap.objs.size = some ob := Heap.get?_push_size _ (by rw [← hob]; rfl)
  have hT : Shared.TypeIs { s with heap := s.heap.push ob } (.ref s.heap.objs.size) "set" := ⟨_, hS, by rw [← hob]⟩
  have hli := PySem.F.called_set.init.lookup
  have hbi := PySem.F.called_set.init.bind (.ref s.heap.objs.size)
  repeat (any_goals (first | assumption | wp_step))
  refine codeAny_mono (codeAny_call_builtin (R := wants (fun r s₂ => r = .none ∧ ∃ h' tk, s₂ = { s with heap := h', toks := tk } ∧ h'.SetOf (strKind P w) s.heap.objs.size (fun z => decide (z ∈ ks)) ks.length ∧
      (∀ b o, s.heap.get? b = some o → h'.get? b = some o)) E) PySem.F.called_set.init.plain PySem.F.entry_set_init (check_set_init_1 hT ?_)) fun r₂ s₂ hr₂ => ?_
  · obtain ⟨⟨oc, od, odat, osl⟩, hol, hcl, nl, hdl⟩ := hl
    simp only at hcl hdl
    subst hcl hdl
    have hlS : l < s.heap.objs.size := Heap.lt_size hol
    have hol' : (s.heap.push ob).get? l = some { cls := .type "tuple", dict := od, data := .seq items nl, slots := osl } := Heap.get?_push_of_some _ hol
    have hsls := PySem.F.sub_tuple_set
    have hslf := PySem.F.sub_tuple_frozenset
    have hne : (Value.type "tuple" == Value.type "dict") = false := by decide
    have hl1 : (s.heap.push ob).IsTuple l items := ⟨_, hol', rfl, nl, rfl⟩
    subst hob
    unfold Builtin.«set.__init__» noKeywords Builtin.Frozenset.updateFrom
    generalize hPI : pyIter = PI
    wp_walk
    subst hPI
    refine wpAny_pyIter_tuple hl1 ?_
    refine wpAny_bind (wpAny_runValue ?_)
    have hh3 : A.in1.in1.in1.handled = none := by simp [hh]
    generalize hob : ({ cls := .type "set", dict := none, data := .set #[] 0 (.fresh 0 0 led) } : Obj) = ob at hl1 hS ⊢
    have zz : (s.heap.push ob).objs.size = s.heap.objs.size + 1 := Heap.size_push ..
    have n1 : l ≠ (s.heap.push ob).objs.size := by rw [zz]; exact Nat.ne_of_lt (Nat.lt_succ_of_lt hlS)
    have n2 : s.heap.objs.size ∉ [(s.heap.push ob).objs.size, l] := by
      simp only [List.mem_cons, List.not_mem_nil, or_false, not_or]
      exact ⟨by rw [zz]; exact Nat.ne_of_lt (Nat.lt_succ_self _), Nat.ne_of_gt hlS⟩
    refine sets_loop ((Walks.tuple hh3 _ l n1 items).toS) s.heap.objs.size n2 ks hz nd hb hval (items.size - 0) 0 _ (by omega) (Nat.zero_le _) ⟨⟨_, Heap.get?_push_size _ rfl, rfl, rfl⟩, (hl1.push _)⟩ ?_ ?_
    · have g : ((s.heap.push ob).push { cls := .type "tuple_iterator", data := .fields #[.ref l, .int 0 0] }).get? s.heap.objs.size = some ob := Heap.get?_push_of_some _ hS
      rw [← hob] at g ⊢
      exact SetOf_congr ((setObjOf_fresh (knd := strKind P w) led).setOf g (by unfold scanBound; omega)) (fun z => by simp) rfl
    · intro s' hm hS'
      obtain ⟨h', g', d', tk', os'⟩ := s'
      obtain rfl : g' = s.gens := hm.gens
      obtain rfl : d' = s.drawn := hm.drawn
      obtain rfl : os' = s.os := hm.os
      show wpAny _ _ _ _ _ _
      refine wpAny_pure ?_
      show wpAny _ _ (ret Value.none) _ _ _
      rw [hz] at hS'
      refine wpAny_pure ⟨rfl, h', tk', rfl, hS', fun b o e => hm.heap b o ?_ (Heap.get?_push_of_some _ (Heap.get?_push_of_some _ e))⟩
      have := Heap.lt_size e
      simp only [List.mem_cons, List.not_mem_nil, or_false, not_or]
      exact ⟨Nat.ne_of_lt this, by rw [zz]; exact Nat.ne_of_lt (Nat.lt_succ_of_lt this)⟩
  · rcases r₂ with e | fl₂
    · exact hr₂
    rcases fl₂ with _ | _ | _ | r
    all_goals first | exact hr₂.elim | skip
    obtain ⟨rfl, h', tk, rfl, hS', hk'⟩ := hr₂
    repeat (any_goals (first | assumption | wp_step))
    exact h _ _ hS' hk'
end
section
variable {X : Cx} {K : PySem.W.Frag} {F : FT} {σ : L2.St} {H : Hp} {Q : VK} {a : Tm}
def tSets (K : PySem.W.Frag) (ta : TE) : TE := fun σ H Q => ta σ H fun x H1 => ∃ l, ∃ xs : List Str, x = .ref l ∧ SqT K H1 l (xs.map V.str) ∧ xs.Nodup ∧ xs.length < 1000 ∧ Q (.int xs.length) H1
theorem pe_sets {e : Expr} {ta : TE} {p p2 q pos : Pos} (hc : X.calm = true) (hg : Gl X "len") (hm : X.mg "len" = none) (hg2 : Gl X "set") (hm2 : X.mg "set" = none) (ha : PE X e ta) (na : starEach [e] X.env = (false, eval e X.env) :: starEach [] X.env) :
    PE X (.Call (.Name "len" p) [.Call (.Name "set" p2) [e] [] q] [] pos) (tSets X.K ta) := by
  refine ⟨fun pins s σ H Q I h => ?_⟩
  refine Call_ (ld_blt I hg hm boot_len (PyProof.Rows.callWith_builtin1 (PyProof.Rows.args_cons ?_ rfl) rfl rfl))
  refine Call_ (ld_blt I hg2 hm2 boot_set (PyProof.Rows.callWith_type1 (PyProof.Rows.args_cons (thn (ha.run pins s σ H _ I h) fun v s1 ⟨x, H1, I1, r1, q1⟩ => PyProof.Rows.args_nil ?_) na) na rfl))
  obtain ⟨l, xs, rfl, hq, nd, h1, q1⟩ := q1
  cases r1
  obtain ⟨its, r, pl, hz⟩ := I1.tuple hq
  refine sets_call xs (I1.ok.hd hc) pl (by simpa using strsAre_of r) nd (by unfold scanBound; omega) fun h' tk hS hk => PyProof.Rows.args_nil ?_
  obtain ⟨o, es, ep, t, ho, hex, hd, _, _, _, hf, hn⟩ := hS
  have I2 : Inv X pins σ H1 { s1 with heap := h', toks := tk } := I1.kept fun b o e => hk b o e
  exact call_len_set ho hex hd hf (by rw [hn] <;> omega) ⟨.int xs.length, H1, I2.tok _, ⟨_, by rw [hn]⟩, q1⟩
theorem i_lset (h : tE K F (.lset a) σ H Q) : tSets K (tE K F a) σ H Q := by
  have h2 := i_op1 (a := a) (f := lsetD) (r := fun v H Q => ∃ l, ∃ xs : List Str, v = .ref l ∧ SqT K H l (xs.map V.str) ∧ xs.Nodup ∧ xs.length < 1000 ∧ Q (.int xs.length) H) (fun ρ ts => by simp only [ev]) ?_ h
  · exact h2
  · intro M T ts H x z v Q t hT hM e hx k
    unfold lsetD at e
    split at e <;> try (simp at e; done)
    rename_i xs
    split at e <;> try (simp at e; done)
    rename_i ss e1
    split at e
    · rename_i hnd
      simp only [Option.some.injEq] at e
      subst e
      have e3 := asStrs_eq e1
      subst e3
      obtain ⟨p, vs, rfl, g, m, l, r⟩ := hx
      have e4 := r.str_eq
      subst e4
      exact ⟨p, ss, rfl, SqT.of g, hnd.1, hnd.2, give t k rfl⟩
    · simp at e
end
end Lt

namespace Lt
open PySem PySem.Spec PyProof.Rows L2

/-! ### {**a, **dict(zip(b, c))} -/
section
variable {prog : Program} {w : World} {A : Around} {E : Value → Shared → Prop} {s : Shared} {K : Type} [DecidableEq K] {knd : KeyKind prog w K}
theorem put_pairs {d : Addr} {kvs : List (K × Value)} {k : K} {key v : Value} {Q : Unit → Shared → Prop} (hkey : knd.is k key = true) (hm : s.heap.DictOf knd d kvs) (hsz : kvs.length ≤ sizeLine)
    (hQ : ∀ h', h'.DictOf knd d (stored kvs k v) → Heap.SameBut d s.heap h' → Q () { s with heap := h' }) : wpAny (model prog w) A (dictPut d (knd.hash k) key v) Q E s := by
  obtain ⟨o, es, ep, ho, hc, hd, hk, hp, hn⟩ := hm
  have hes : es.size ≤ sizeLine := by
    have e1 := hp.length
    have e2 : es.toList.length = es.size := by simp
    omega
  unfold dictPut
  refine wpAny_bind (wpAny_dictFind_of hkey ho hd hk ?_)
  have hidx : (es.findIdx? fun e => knd.is k e.key) = kvs.findIdx? fun kv => decide (kv.1 = k) := by
    rw [← hp.findIdx k]; obtain ⟨l⟩ := es; simp
  cases hi : es.findIdx? fun e => knd.is k e.key with
  | some i =>
    refine wpAny_updateDict ho hd (hQ _ ⟨_, _, ep, Heap.get?_update_self _ ho (Obj.isFreed_of_dict (Obj.data_mapDict hd _)), hc.mapDict _, Obj.data_mapDict hd _, hk.modify _ _, ?_, ?_⟩ (Heap.SameBut.update ..))
    · rw [stored, if_pos (any_of_findIdx_some (hidx ▸ hi))]
      have hl : (es.toList.findIdx? fun e => knd.is k e.key) = some i := by rw [← hi]; obtain ⟨l⟩ := es; simp
      have := hp.modify hn hl v
      obtain ⟨l⟩ := es
      simpa using this
    · rw [stored, if_pos (any_of_findIdx_some (hidx ▸ hi)), keys_map_store]; exact hn
  | none =>
    have hnot : k ∉ kvs.map (·.1) := not_mem_of_findIdx_none (hidx ▸ hi)
    have hany : ¬ (kvs.any fun kv => decide (kv.1 = k)) = true := by
      rw [List.any_eq_true]
      rintro ⟨kv, hkv, he⟩
      exact hnot (List.mem_map.mpr ⟨kv, hkv, of_decide_eq_true he⟩)
    refine wpAny_updateDictKeys (hz := hes) ho hd (hQ _ ⟨_, _, ep + 1, Heap.get?_update_self _ ho (Obj.isFreed_of_dict (Obj.data_mapDictKeys hd _)), hc.mapDictKeys _, Obj.data_mapDictKeys hd _, hk.push hkey _, ?_, ?_⟩ (Heap.SameBut.update ..))
    · rw [stored, if_neg hany]
      have := hp.append hkey (knd.hash k) v
      obtain ⟨l⟩ := es
      simpa using this
    · rw [stored, if_neg hany, List.map_append, List.nodup_append]
      refine ⟨hn, by simp, fun a ha b hb => ?_⟩
      simp only [List.map_cons, List.map_nil, List.mem_singleton] at hb
      subst hb
      exact fun e => hnot (e ▸ ha)
theorem merge_pairs {d o : Addr} {kvs more : List (K × Value)} {Q : Unit → Shared → Prop} (hdo : d ≠ o) (hoS : (o == sysModules) = false) (hnr : ∀ k v, knd.is k v = true → ∀ a, v ≠ .ref a)
    (hd : s.heap.DictOf knd d kvs) (ho : s.heap.DictOf knd o more) (hsz : kvs.length + more.length ≤ sizeLine)
    (hQ : ∀ h', h'.DictOf knd d (merged kvs more) → Heap.SameBut d s.heap h' → Q () { s with heap := h' }) : wpAny (model prog w) A (mergeMapping d (.ref o) false) Q E s := by
  obtain ⟨od, esd, epd, hod, hcd, hdd, hkd, hpd, hnd⟩ := id hd
  obtain ⟨oo, eso, epo, hoo, hco, hdo', hko, hpo, hno⟩ := id ho
  have hlen : more.length = eso.size := by rw [← hpo.length]; simp
  unfold mergeMapping
  refine wpAny_bind (wpAny_isInstance ho.typeIs isSubtype_dict_dict ?_)
  dsimp only
  rw [if_pos rfl]
  refine wpAny_bind (wpAny_specialOf ho.typeIs F.slot_dict_iter.lookup ?_)
  refine wpAny_bind (wpAny_pure ?_)
  have e1 : ((some (Value.builtin "dict.__iter__")) == (some (Value.builtin "dict.__iter__") : Option Value)) = true := beq_self_eq_true _
  rw [e1]
  dsimp only
  rw [if_neg (by rw [hoS]; exact Bool.false_ne_true)]
  refine wpAny_bind (wpAny_dictEntries hod hdd ?_)
  have key : ∀ main : Sem Unit, wpAny (model prog w) A main Q E s → wpAny (model prog w) A (if esd.isEmpty = true then do
      let es ← dictEntries o
      forIn es PUnit.unit fun e __s =>
          match e.key with
          | Value.ref a => do
            let __do_lift ← specialOf e.key (Str.ofString "__eq__")
            if (__do_lift != some (Value.builtin "object.__eq__")) = true then
                if (Array.filter (fun x => x.hash == e.hash) es).size > 1 then do
                  unsupported "dict.merge-into-an-empty-dict:keys-of-equal-hash"
                  pure (ForInStep.yield PUnit.unit)
                else pure (ForInStep.yield PUnit.unit)
              else pure (ForInStep.yield PUnit.unit)
          | x => pure (ForInStep.yield PUnit.unit)
      main
    else main) Q E s := fun main hm => by
    split
    · refine wpAny_bind (wpAny_dictEntries hoo hdo' (wpAny_bind ?_))
      rw [← Array.forIn_toList]
      refine wpAny_forIn_list _ (fun rest _ s' => s' = s ∧ ∀ e ∈ rest, e ∈ eso.toList) _ ?_ ?_ _ _ ⟨rfl, fun e he => he⟩
      · rintro x rest b s' ⟨rfl, hr⟩
        obtain ⟨k', hkey', _⟩ := hko x (by simpa using hr x (by simp))
        split
        · rename_i a ha
          exact absurd ha (hnr _ _ hkey' a)
        · exact wpAny_pure ⟨rfl, fun e he => hr e (by simp [he])⟩
      · rintro b s' ⟨rfl, hr⟩
        exact hm
    · exact hm
  refine key _ ?_
  clear key
  refine wpAny_bind (wpAny_dictEntries hoo hdo' (wpAny_bind (wpAny_dictEpoch hoo hdo' (wpAny_bind ?_))))
  refine wpAny_forIn_list _
    (fun rest _ s' => ∃ h' i, s' = { s with heap := h' } ∧ rest = List.range' i (eso.size - i) ∧ i ≤ eso.size ∧ h'.DictOf knd d (merged kvs (more.take i)) ∧ h'.get? o = some oo ∧ Heap.SameBut d s.heap h')
    _ ?_ ?_ _ _ ⟨s.heap, 0, rfl, by simp [List.range_eq_range'], Nat.zero_le _, by simpa [merged] using hd, hoo, Heap.SameBut.refl _ _⟩
  · rintro x rest b s' ⟨h', i, rfl, hr, hi, hd', hoo', hs'⟩
    have hlt : i < eso.size := by
      rcases Nat.lt_or_ge i eso.size with h | h
      · exact h
      · rw [Nat.sub_eq_zero_of_le h] at hr; simp at hr
    obtain ⟨rfl, hrest⟩ : x = i ∧ rest = List.range' (i + 1) (eso.size - (i + 1)) := by
      have e : eso.size - i = (eso.size - (i + 1)) + 1 := by omega
      rw [e, List.range'_succ] at hr
      injection hr with h1 h2
      exact ⟨h1, h2⟩
    refine wpAny_bind (wpAny_dictEntries hoo' hdo' ?_)
    rw [Array.getElem?_eq_getElem hlt]
    obtain ⟨kv, hkv⟩ : ∃ kv, more[x]? = some kv := ⟨more[x]'(by rw [hlen]; exact hlt), List.getElem?_eq_getElem _⟩
    obtain ⟨k, v⟩ := kv
    obtain ⟨hkey, hval⟩ := hpo.get? (e := eso[x]) (by simp [hlt]) hkv
    obtain ⟨k', hkey', hhash⟩ := hko eso[x] (Array.getElem_mem hlt)
    obtain rfl : k' = k := knd.inj _ _ _ hkey' hkey
    dsimp only
    rw [if_neg (by decide), hhash, hval]
    have hmx : (merged kvs (more.take x)).length ≤ sizeLine := by
      have e1 := merged_length_le kvs (more.take x)
      have e2 : (more.take x).length ≤ more.length := by rw [List.length_take]; omega
      omega
    refine wpAny_bind (wpAny_holding (put_pairs hkey hd' hmx fun h2 hd2 hs2 => ?_))
    have hoo2 : h2.get? o = some oo := (hs2.2 o (Ne.symm hdo)).trans hoo'
    refine wpAny_bind (wpAny_dictEpoch hoo2 hdo' ?_)
    rw [if_neg (by simp)]
    exact wpAny_pure ⟨h2, x + 1, rfl, hrest, hlt, by rw [merged_take_succ kvs more x (k', v) hkv]; exact hd2, hoo2, hs'.trans hs2⟩
  · rintro b s' ⟨h', i, rfl, hr, hi, hd', hoo', hs'⟩
    have hin : i = eso.size := by
      rcases Nat.lt_or_ge i eso.size with h | h
      · have e : eso.size - i = (eso.size - (i + 1)) + 1 := by omega
        rw [e, List.range'_succ] at hr; exact nomatch hr
      · exact Nat.le_antisymm hi h
    refine wpAny_pure (hQ h' ?_ hs')
    rw [hin, ← hlen, List.take_length] at hd'
    exact hd'
/-- {**a, **b} -/
theorem two_stars {x y : Expr} {env : PySem.Env} {pos : Pos} {Q : Value → Shared → Prop}
    (h : wpAny (model prog w) A (eval x env) (fun v s1 => ∃ ax, v = .ref ax ∧ wpAny (model prog w) A (mergeMapping s.heap.objs.size (.ref ax) false) (fun _ s2 => wpAny (model prog w) A (eval y env) (fun v2 s3 => ∃ ay, v2 = .ref ay ∧
      wpAny (model prog w) A (mergeMapping s.heap.objs.size (.ref ay) false) (fun _ s4 => Q (.ref s.heap.objs.size) s4) (fun _ _ => False) s3) E s2) (fun _ _ => False) s1) E { s with heap := s.heap.push { cls := .type "dict", data := .dict #[] } }) :
    wpAny (model prog w) A (eval (.Dict [none, none] [x, y] pos) env) Q E s := by
  rw [arm_eval_Dict]
  refine wpAny_bind (wpAny_standAt ?_)
  show wpAny _ _ (dictDisplay [(none, do let z ← eval x env; standAt pos; pure z), (none, do let z ← eval y env; standAt pos; pure z)]) _ _ _
  unfold dictDisplay
  dsimp only
  rw [List.forIn_cons]
  dsimp only
  rw [if_pos (by rfl)]
  refine wpAny_bind (wpAny_bind (wpAny_bind (wpAny_pure ?_)))
  dsimp only
  refine wpAny_bind (wpAny_alloc ?_)
  refine wpAny_bind (wpAny_holding (wpAny_bind (wpAny_mono h (fun v s1 ⟨ax, hv, h1⟩ => wpAny_bind (wpAny_standAt (wpAny_pure ?_))) fun _ _ z => z)))
  subst hv
  refine wpAny_bind (wpAny_onRaise (wpAny_tryCatch (wpAny_onRaise (wpAny_holding (wpAny_mono h1 (fun _ s2 h2 => ?_) fun _ _ z => z.elim)))))
  refine wpAny_pure ?_
  dsimp only
  rw [List.forIn_cons]
  dsimp only
  rw [if_pos (by rfl)]
  refine wpAny_bind (wpAny_bind (wpAny_pure ?_))
  dsimp only
  refine wpAny_bind (wpAny_pure ?_)
  refine wpAny_bind (wpAny_holding (wpAny_bind (wpAny_mono h2 (fun v s3 ⟨ay, hv, h3⟩ => wpAny_bind (wpAny_standAt (wpAny_pure ?_))) fun _ _ z => z)))
  subst hv
  refine wpAny_bind (wpAny_onRaise (wpAny_tryCatch (wpAny_onRaise (wpAny_holding (wpAny_mono h3 (fun _ s4 h4 => ?_) fun _ _ z => z.elim)))))
  refine wpAny_pure ?_
  dsimp only
  rw [List.forIn_nil]
  refine wpAny_pure ?_
  dsimp only
  rw [if_pos (by rfl)]
  exact wpAny_bind (wpAny_pure (wpAny_pure h4))
end
end Lt

namespace Lt
open PySem PySem.Spec PyProof.Rows L2

/-! ### a zip of any two whose pairs stay alive -/
section
variable {prog : Program} {w : World} {A : Around} {E : Value → Shared → Prop} {s : Shared} {z TI TO T i1 i2 : Addr} {f : Bool} {oT : Obj} {fp1 fp2 : List Addr} {n1 n2 i : Nat} {P1 P2 : Nat → Value → Prop} {St1 St2 : Nat → Heap → Prop}
theorem held_item {Q : Value → Shared → Prop} (S : ZipSep2 z TI TO i1 i2 fp1 fp2) (D1 : Draws prog w A i1 fp1 n1 P1 St1) (D2 : Draws prog w A i2 fp2 n2 P2 St2)
    (hz : IsZipHeld s.heap z TI TO T f) (hT : s.heap.get? T = some oT) (hTI : IsTupOf2 s.heap TI (.ref i1) (.ref i2)) (st1 : St1 i s.heap) (st2 : St2 i s.heap) (hlt1 : i < n1) (hlt2 : i < n2)
    (hQ : ∀ x1 x2 h' tk, P1 i x1 → P2 i x2 → IsZipHeld h' z TI TO T true → St1 (i + 1) h' → St2 (i + 1) h' → IsTupOf2 h' s.heap.objs.size x1 x2 →
      (∀ c o, c ≠ z → c ≠ i1 → c ≠ i2 → s.heap.get? c = some o → h'.get? c = some o) → Q (.ref s.heap.objs.size) { s with heap := h', toks := tk }) :
    wpAny (model prog w) A (Builtin.«zip.__next__» ⟨[.ref z], []⟩) (fun fin s' => ∃ v, fin = .done (.ret v) ∧ Q v s') E s := by
  obtain ⟨hp, g, d, tk0, os⟩ := s
  show wpAny _ _ (field (.ref z) 2 >>= _) _ _ _
  refine wpAny_bind (wpAny_field hz rfl (x := .bool false) rfl ?_)
  show wpAny _ _ (field (.ref z) 3 >>= _) _ _ _
  refine wpAny_bind (wpAny_field hz rfl (x := .ref TI) rfl (wpAny_bind (wpAny_seqItems hTI rfl ?_)))
  show wpAny _ _ (Builtin.SmallTypes.ownedTupleIsFree (.ref z) >>= _) _ _ _
  refine wpAny_bind (wpAny_tupleHeld_zip hz hT fun g0 hz0 hs0 => ?_)
  replace hz0 : IsZipHeld g0 z TI TO T true := hz0
  replace hs0 : Heap.SameBut z hp g0 := hs0
  simp only [Bool.false_eq_true, if_false]
  refine wpAny_bind ?_
  rw [← Array.forIn_toList]
  simp only [List.forIn_cons, List.forIn_nil]
  refine wpAny_bind (wpAny_bind (wpAny_holding ?_))
  show wpAny _ _ (Builtin.SmallTypes.nextOf (.ref i1) >>= _) _ _ ⟨g0, g, d, tk0, os⟩
  refine wpAny_bind (D1.item i _ _ _ hlt1 (D1.over st1 hs0 S.zf1) fun x1 p1 tk1 hx1 sn1 hp1 => wpAny_pure (wpAny_pure ?_))
  replace hp1 : Heap.SameBut i1 g0 p1 := hp1
  refine wpAny_bind (wpAny_bind (wpAny_holding ?_))
  show wpAny _ _ (Builtin.SmallTypes.nextOf (.ref i2) >>= _) _ _ ⟨p1, g, d, tk1, os⟩
  refine wpAny_bind (D2.item i _ _ _ hlt2 (D2.over (D2.over st2 hs0 S.zf2) hp1 S.sep1_2) fun x2 p2 tk2 hx2 sn2 hp2 => wpAny_pure (wpAny_pure (wpAny_pure ?_)))
  replace hp2 : Heap.SameBut i2 p1 p2 := hp2
  show wpAny _ _ (newTuple [x1, x2] >>= _) _ _ ⟨p2, g, d, tk2, os⟩
  refine wpAny_bind (wpAny_newTuple ?_)
  have hsz : p2.objs.size = hp.objs.size := by rw [hp2.1, hp1.1, hs0.1]
  have hk : ∀ c o, c ≠ z → c ≠ i1 → c ≠ i2 → hp.get? c = some o → p2.get? c = some o := fun c o c1 c2 c3 e => hp2.extBut _ _ c3 (hp1.extBut _ _ c2 (hs0.extBut _ _ c1 e))
  have up : ∀ c o, p2.get? c = some o → (p2.push { cls := .type "tuple", data := .seq #[x1, x2] }).get? c = some o := fun c o e => Heap.get?_push_of_some _ e
  have hn : IsTupOf2 (p2.push { cls := .type "tuple", data := .seq #[x1, x2] }) p2.objs.size x1 x2 := Heap.get?_push_size _ rfl
  rw [hsz] at hn
  refine wpAny_pure ⟨_, rfl, ?_⟩
  show Q (.ref p2.objs.size) _
  rw [hsz]
  exact hQ x1 x2 _ tk2 hx1 hx2 (up _ _ (hp2.extBut _ _ S.zi2 (hp1.extBut _ _ S.zi1 hz0))) (D1.frame _ _ _ (D1.over sn1 hp2 S.sep2_1) fun b _ o e => up b o e) (D2.frame _ _ _ sn2 fun b _ o e => up b o e) hn fun c o c1 c2 c3 e => up _ _ (hk c o c1 c2 c3 e)
theorem held_end {Q : Fin → Shared → Prop} (S : ZipSep2 z TI TO i1 i2 fp1 fp2) (D1 : Draws prog w A i1 fp1 n1 P1 St1) (D2 : Draws prog w A i2 fp2 n2 P2 St2)
    (hz : IsZipHeld s.heap z TI TO T f) (hT : s.heap.get? T = some oT) (hTI : IsTupOf2 s.heap TI (.ref i1) (.ref i2)) (st1 : St1 i s.heap) (st2 : St2 i s.heap) (hend : i = n1 ∨ (i < n1 ∧ i = n2))
    (hE : ∀ h' tk e, (∀ c o, c ≠ z → c ≠ i1 → c ≠ i2 → s.heap.get? c = some o → h'.get? c = some o) → (∃ o, h'.get? e = some o ∧ o.cls = .type "StopIteration") → E (.ref e) { s with heap := h', toks := tk }) :
    wpAny (model prog w) A (Builtin.«zip.__next__» ⟨[.ref z], []⟩) Q E s := by
  obtain ⟨hp, g, d, tk0, os⟩ := s
  show wpAny _ _ (field (.ref z) 2 >>= _) _ _ _
  refine wpAny_bind (wpAny_field hz rfl (x := .bool false) rfl ?_)
  show wpAny _ _ (field (.ref z) 3 >>= _) _ _ _
  refine wpAny_bind (wpAny_field hz rfl (x := .ref TI) rfl (wpAny_bind (wpAny_seqItems hTI rfl ?_)))
  show wpAny _ _ (Builtin.SmallTypes.ownedTupleIsFree (.ref z) >>= _) _ _ _
  refine wpAny_bind (wpAny_tupleHeld_zip hz hT fun g0 hz0 hs0 => ?_)
  replace hs0 : Heap.SameBut z hp g0 := hs0
  simp only [Bool.false_eq_true, if_false]
  refine wpAny_bind ?_
  rw [← Array.forIn_toList]
  simp only [List.forIn_cons, List.forIn_nil]
  refine wpAny_bind (wpAny_bind (wpAny_holding ?_))
  show wpAny _ _ (Builtin.SmallTypes.nextOf (.ref i1) >>= _) _ _ ⟨g0, g, d, tk0, os⟩
  rcases hend with hi | ⟨hlt1, hi⟩
  · refine wpAny_bind (D1.done ⟨g0, g, d, tk0, os⟩ _ _ (by rw [← hi]; exact D1.over st1 hs0 S.zf1) fun q e hq he => ?_)
    replace hq : Heap.ExtBut i1 g0 q := hq
    exact hE q tk0 e (fun c o cz c1 c2 x => hq _ _ c1 (hs0.extBut _ _ cz x)) he
  · refine wpAny_bind (D1.item i _ _ _ hlt1 (D1.over st1 hs0 S.zf1) fun x1 p1 tk1 hx1 sn1 hp1 => wpAny_pure (wpAny_pure ?_))
    replace hp1 : Heap.SameBut i1 g0 p1 := hp1
    refine wpAny_bind (wpAny_bind (wpAny_holding ?_))
    show wpAny _ _ (Builtin.SmallTypes.nextOf (.ref i2) >>= _) _ _ ⟨p1, g, d, tk1, os⟩
    refine wpAny_bind (D2.done ⟨p1, g, d, tk1, os⟩ _ _ (by rw [← hi]; exact D2.over (D2.over st2 hs0 S.zf2) hp1 S.sep1_2) fun q e hq he => ?_)
    replace hq : Heap.ExtBut i2 p1 q := hq
    exact hE q tk1 e (fun c o cz c1 c2 x => hq _ _ c2 (hp1.extBut _ _ c1 (hs0.extBut _ _ cz x))) he
theorem held_pyNext {Q : Option Value → Shared → Prop} (S : ZipSep2 z TI TO i1 i2 fp1 fp2) (D1 : Draws prog w A.in1 i1 fp1 n1 P1 St1) (D2 : Draws prog w A.in1 i2 fp2 n2 P2 St2)
    (hz : IsZipHeld s.heap z TI TO T f) (hT : s.heap.get? T = some oT) (hTI : IsTupOf2 s.heap TI (.ref i1) (.ref i2)) (st1 : St1 i s.heap) (st2 : St2 i s.heap) (hlt1 : i < n1) (hlt2 : i < n2)
    (hQ : ∀ x1 x2 h' tk, P1 i x1 → P2 i x2 → IsZipHeld h' z TI TO T true → St1 (i + 1) h' → St2 (i + 1) h' → IsTupOf2 h' s.heap.objs.size x1 x2 →
      (∀ c o, c ≠ z → c ≠ i1 → c ≠ i2 → s.heap.get? c = some o → h'.get? c = some o) → Q (some (.ref s.heap.objs.size)) { s with heap := h', toks := tk }) :
    wpAny (model prog w) A (pyNext (.ref z)) Q E s := by
  have hTy : s.TypeIs (.ref z) "zip" := ⟨_, hz, rfl⟩
  unfold pyNext
  exact wpAny_bind (wpAny_attempt (wpAny_callSpecial?_slot (name := Str.ofString "__next__") hTy F.slot_zip_next
    (wpAny_call_entry F.slot_zip_next hTy F.entry_zip_next (held_item S D1 D2 hz hT hTI st1 st2 hlt1 hlt2 fun x1 x2 h' tk y1 y2 b1 d1 d2 b5 b7 => wpAny_pure (hQ x1 x2 h' tk y1 y2 b1 d1 d2 b5 b7)) (F.args_zip_next_1 _))))
theorem held_pyEnd {Q : Option Value → Shared → Prop} (S : ZipSep2 z TI TO i1 i2 fp1 fp2) (D1 : Draws prog w A.in1 i1 fp1 n1 P1 St1) (D2 : Draws prog w A.in1 i2 fp2 n2 P2 St2)
    (hz : IsZipHeld s.heap z TI TO T f) (hT : s.heap.get? T = some oT) (hTI : IsTupOf2 s.heap TI (.ref i1) (.ref i2)) (st1 : St1 i s.heap) (st2 : St2 i s.heap) (hend : i = n1 ∨ (i < n1 ∧ i = n2))
    (hQ : ∀ h' tk, (∀ c o, c ≠ z → c ≠ i1 → c ≠ i2 → s.heap.get? c = some o → h'.get? c = some o) → Q none { s with heap := h', toks := tk }) : wpAny (model prog w) A (pyNext (.ref z)) Q E s := by
  have hTy : s.TypeIs (.ref z) "zip" := ⟨_, hz, rfl⟩
  unfold pyNext
  refine wpAny_bind (wpAny_attempt (wpAny_callSpecial?_slot (name := Str.ofString "__next__") hTy F.slot_zip_next
    (wpAny_call_entry F.slot_zip_next hTy F.entry_zip_next (held_end S D1 D2 hz hT hTI st1 st2 hend fun h' tk e hk he => ?_) (F.args_zip_next_1 _))))
  obtain ⟨o, ho, hc⟩ := he
  exact wpAny_bind (wpAny_isInstance (T := "StopIteration") (b := true) ⟨o, ho, hc⟩ isSubtype_stop (wpAny_pure (hQ _ _ hk)))
end
section
variable {prog : Program} {w : World}
theorem pairArgZ {z TI TO i1 i2 : Addr} {fp1 fp2 : List Addr} {n1 n2 : Nat} {P1 P2 : Nat → Value → Prop} {St1 St2 : Nat → Heap → Prop} (S : ZipSep2 z TI TO i1 i2 fp1 fp2)
    (D1 : ∀ A : Around, A.handled = none → Draws prog w A i1 fp1 n1 P1 St1) (D2 : ∀ A : Around, A.handled = none → Draws prog w A i2 fp2 n2 P2 St2) (there1 : ∀ h, St1 0 h → ∀ b ∈ fp1, ∃ o, h.get? b = some o) (there2 : ∀ h, St2 0 h → ∀ b ∈ fp2, ∃ o, h.get? b = some o)
    (fr1 : ∀ i h h', St1 i h → (∀ b ∈ fp1, ∀ o, h.get? b = some o → h'.get? b = some o) → St1 i h') (fr2 : ∀ i h h', St2 i h → (∀ b ∈ fp2, ∀ o, h.get? b = some o → h'.get? b = some o) → St2 i h') :
    PairArg prog w "zip" z (z :: TI :: TO :: (fp1 ++ fp2)) [z, TO, i1, i2] (min n1 n2) (fun i k v => P1 i k ∧ P2 i v)
      (fun h => IsZip h z TI TO .none ∧ IsTupOf2 h TI (.ref i1) (.ref i2) ∧ (∃ a b, IsTupOf2 h TO a b) ∧ St1 0 h ∧ St2 0 h) where
  type := fun s ok => ⟨_, ok.1, rfl⟩
  notDict := by decide
  keep := fun h h' ok hk => by
    obtain ⟨hz, hTI, ⟨a, b, hTO⟩, h1, h2⟩ := ok
    exact ⟨hk _ _ hz, hk _ _ hTI, ⟨a, b, hk _ _ hTO⟩, fr1 _ _ _ h1 fun b _ o e => hk b o e, fr2 _ _ _ h2 fun b _ o e => hk b o e⟩
  there := fun h ok b hb => by
    obtain ⟨hz, hTI, ⟨a, c, hTO⟩, h1, h2⟩ := ok
    simp only [List.mem_cons, List.mem_append] at hb
    rcases hb with rfl | rfl | rfl | hb | hb
    · exact ⟨_, hz⟩
    · exact ⟨_, hTI⟩
    · exact ⟨_, hTO⟩
    · exact there1 h h1 b hb
    · exact there2 h h2 b hb
  sub := fun b hb => by
    simp only [List.mem_cons, List.not_mem_nil, or_false] at hb
    rcases hb with rfl | rfl | rfl | rfl
    · simp
    · simp
    · simp [S.mem1]
    · simp [S.mem2]
  noKeys := fun A s Q E hA ok h => getAttrOr_miss_zip ok.1 rfl rfl rfl zip_no_keys (by decide +kernel) hA h
  iter := fun A s d Q E hA ok hd hdf h => by
    obtain ⟨hz, hTI, ⟨a, b, hTO⟩, h1, h2⟩ := ok
    simp only [List.mem_cons, List.mem_append, not_or] at hdf
    obtain ⟨dz, dTI, dTO, d1, d2⟩ := hdf
    have di1 : d ≠ i1 := fun e => d1 (by rw [e]; exact S.mem1)
    have di2 : d ≠ i2 := fun e => d2 (by rw [e]; exact S.mem2)
    have E1 := D1 A.in1 hA
    have E2 := D2 A.in1 hA
    refine wpAny_pyIter_zip hz (h z [z, TO, i1, i2] (fun i h => IsTupOf2 h TI (.ref i1) (.ref i2) ∧ St1 i h ∧ St2 i h ∧
      ((IsZip h z TI TO .none ∧ ∃ a b, IsTupOf2 h TO a b) ∨ ∃ T f oT, IsZipHeld h z TI TO T f ∧ h.get? T = some oT ∧ T ≠ z ∧ T ≠ i1 ∧ T ≠ i2 ∧ T ≠ d)) s.heap s.toks ?_ ⟨hTI, h1, h2, .inl ⟨hz, a, b, hTO⟩⟩ (fun _ _ e => e) fun b hb => .inl hb)
    have four : ∀ {c : Addr}, c ∉ [z, TO, i1, i2] → c ≠ z ∧ c ≠ TO ∧ c ≠ i1 ∧ c ≠ i2 := fun {c} hc => by simpa using hc
    exact {
      off := fun hm => by
        simp only [List.mem_cons, List.not_mem_nil, or_false] at hm
        rcases hm with e | e | e | e
        · exact dz e
        · exact dTO e
        · exact di1 e
        · exact di2 e
      frame := fun i g g' st hk => by
        obtain ⟨hTI, h1, h2, hz⟩ := st
        refine ⟨hk _ _ (Ne.symm dTI) hTI, fr1 _ _ _ h1 fun b hb o e => hk b o (fun q => d1 (q ▸ hb)) e, fr2 _ _ _ h2 fun b hb o e => hk b o (fun q => d2 (q ▸ hb)) e, ?_⟩
        rcases hz with ⟨hz, a, b, hTO⟩ | ⟨T, f, oT, hz, hT, r1, r2, r3, r4⟩
        · exact .inl ⟨hk _ _ (Ne.symm dz) hz, a, b, hk _ _ (Ne.symm dTO) hTO⟩
        · exact .inr ⟨T, f, oT, hk _ _ (Ne.symm dz) hz, hk _ _ r4 hT, r1, r2, r3, r4⟩
      item := fun i s₁ Q₁ E₁ hi st hds hQ => by
        obtain ⟨hTI, h1, h2, hz⟩ := st
        have l1 : i < n1 := Nat.lt_of_lt_of_le hi (Nat.min_le_left ..)
        have l2 : i < n2 := Nat.lt_of_lt_of_le hi (Nat.min_le_right ..)
        have lt : ∀ {c o}, s₁.heap.get? c = some o → s₁.heap.objs.size ≠ c := fun e => Nat.ne_of_gt (Heap.lt_size e)
        have m1 : s₁.heap.objs.size ≠ i1 := let ⟨_, e⟩ := E1.live _ _ h1; lt e
        have m2 : s₁.heap.objs.size ≠ i2 := let ⟨_, e⟩ := E2.live _ _ h2; lt e
        rcases hz with ⟨hz, a, b, hTO⟩ | ⟨T, f, oT, hz, hT, r1, r2, r3, r4⟩
        · refine wpAny_pyNext_zipD2_item S E1 E2 hz hTI hTO h1 h2 l1 l2 fun x1 x2 h' tk y1 y2 b1 b2 g1 g2 b5 b6 hk => ?_
          exact hQ s₁.heap.objs.size x1 x2 h' tk ⟨y1, y2⟩ (.inl ⟨_, b5, rfl, _, rfl⟩) ⟨hk _ _ S.TIz S.TITO S.TIi1 S.TIi2 hTI, g1, g2, .inr ⟨s₁.heap.objs.size, false, _, b1, b5, lt hz, m1, m2, Nat.ne_of_gt hds⟩⟩
            fun c o hc e => hk c o (four hc).1 (four hc).2.1 (four hc).2.2.1 (four hc).2.2.2 e
        · refine held_pyNext S E1 E2 hz hT hTI h1 h2 l1 l2 fun x1 x2 h' tk y1 y2 b1 g1 g2 b5 hk => ?_
          exact hQ s₁.heap.objs.size x1 x2 h' tk ⟨y1, y2⟩ (.inl ⟨_, b5, rfl, _, rfl⟩) ⟨hk _ _ S.TIz S.TIi1 S.TIi2 hTI, g1, g2, .inr ⟨T, true, oT, b1, hk _ _ r1 r2 r3 hT, r1, r2, r3, r4⟩⟩
            fun c o hc e => hk c o (four hc).1 (four hc).2.2.1 (four hc).2.2.2 e
      done := fun s₁ Q₁ E₁ st hQ => by
        obtain ⟨hTI, h1, h2, hz⟩ := st
        rcases hz with ⟨hz, a, b, hTO⟩ | ⟨T, f, oT, hz, hT, r1, r2, r3, r4⟩
        · exact wpAny_pyNext_zipD2_end S E1 E2 hz hTI hTO h1 h2 (Nat.min_le_left ..) (Nat.min_le_right ..) (by omega) fun h' tk hk => hQ h' tk fun c o hc e => hk c o (four hc).1 (four hc).2.1 (four hc).2.2.1 (four hc).2.2.2 e
        · exact held_pyEnd S E1 E2 hz hT hTI h1 h2 (by omega) fun h' tk hk => hQ h' tk fun c o hc e => hk c o (four hc).1 (four hc).2.2.1 (four hc).2.2.2 e }
end
end Lt

namespace Lt
open PySem PySem.Spec PyProof.Rows L2

/-! ### {**a, **dict(zip(b, c))}, all three names -/
def pairsK (is : List Int) (zs : List V) : List (Key × V) := (is.map Sum.inl).zip zs
def tDmg (i j k : Nat) : TE := fun σ H Q => ∃ ax kvs b is c zs, σ[i]? = some (some (.ref ax)) ∧ H ax = some (.dK kvs) ∧ σ[j]? = some (some (.ref b)) ∧ H b = some (.tup (is.map V.int)) ∧ σ[k]? = some (some (.ref c)) ∧ H c = some (.tup zs) ∧
  is.length + kvs.length ≤ LIM ∧ ∀ p H', H p = none → (∀ a o, H a = some o → H' a = some o) → H' p = some (.dK (mergeK (mergeK [] kvs) (mergeK [] (pairsK is zs)))) → Q (.ref p) H'
section
variable {X : Cx}
theorem mix_noref {P : Program} {w : World} (k : Key) (v : Value) (h : (mixKind P w).is k v = true) (a : Addr) : v ≠ .ref a := by
  intro e
  subst e
  cases k <;> exact Bool.noConfusion (show false = true from h)
theorem kv_pairs : ∀ {is : List Int} {zs : List V} {us vs : List Value}, Vals (is.map V.int) us → Vals zs vs → ∃ kvs : List (Key × Value), KV (pairsK is zs) kvs ∧ kvs.length = min us.length vs.length ∧ ∀ (i : Nat) (key v : Value), us[i]? = some key → vs[i]? = some v → ∃ k, kvs[i]? = some (k, v) ∧ ∀ (P : Program) (w : World), (mixKind P w).is k key = true
  | [], zs, us, vs, r1, r2 => by
    cases r1
    exact ⟨[], .nil, by simp, fun i key v h => by simp at h⟩
  | n :: is, [], us, vs, r1, r2 => by
    cases r2
    exact ⟨[], .nil, by simp, fun i key v h h2 => by simp at h2⟩
  | n :: is, z :: zs, us, vs, r1, r2 => by
    cases r1 with
    | cons a1 t1 =>
      cases r2 with
      | cons a2 t2 =>
        rename_i u us' x vs'
        obtain ⟨kvs, h1, h2, h3⟩ := kv_pairs t1 t2
        refine ⟨(Sum.inl n, x) :: kvs, .cons ⟨rfl, a2⟩ h1, by simp [h2], fun i key v hk hv => ?_⟩
        cases i with
        | zero =>
          simp at hk hv
          subst hk hv
          exact ⟨Sum.inl n, rfl, fun P w => kV_is (P := P) (w := w) (k := Sum.inl n) a1⟩
        | succ i => exact h3 i key v (by simpa using hk) (by simpa using hv)
theorem pe_dmg {i j k : Nat} {x y z : Str} {px py pz pd pZ p1 p2 pos : Pos} (hc : X.calm = true) (hx : PE X (.Name x px) (tVar i)) (hy : PE X (.Name y py) (tVar j)) (hz : PE X (.Name z pz) (tVar k))
    (gd : Gl X "dict") (md : X.mg "dict" = none) (gz : Gl X "zip") (mz : X.mg "zip" = none) :
    PE X (.Dict [none, none] [.Name x px, .Call (.Name "dict" pd) [.Call (.Name "zip" pZ) [.Name y py, .Name z pz] [] p1] [] p2] pos) (tDmg i j k) := by
  refine ⟨fun pins s σ H Q I h => ?_⟩
  obtain ⟨ax, kvs, b, is, c, zs, sx, hax, sy, hb, sz, hcc, hl, q⟩ := h
  have hsl := sizeLim
  generalize hD : s.heap.objs.size = D
  have hDn : H D = none := I.hok.fresh (Nat.le_of_eq hD)
  have nx : ax ≠ D := fun e => by rw [e, hDn] at hax; cases hax
  have nb : b ≠ D := fun e => by rw [e, hDn] at hb; cases hb
  have nc : c ≠ D := fun e => by rw [e, hDn] at hcc; cases hcc
  refine two_stars ?_
  rw [hD]
  have I1 : Inv X pins σ (upd H D (.dK [])) { s with heap := s.heap.push { cls := .type "dict", data := .dict #[] } } := by
    refine I.laid (t' := s.toks) (fun b o e => Heap.get?_push_of_some _ e) (Nat.le_of_eq hD) ?_
    rw [← hD]
    exact dk_empty s.heap I.big
  refine thn (hx.run pins _ σ _ (fun v H1 => v = .ref ax ∧ H1 = upd H D (.dK [])) I1 ⟨.ref ax, sx, rfl, rfl⟩) fun u s1 ⟨v, H1, I2, r1, e1, e2⟩ => ?_
  subst e1 e2
  cases r1
  refine ⟨ax, rfl, ?_⟩
  have g1 : upd H D (.dK []) ax = some (.dK kvs) := by rw [upd_ne nx]; exact hax
  obtain ⟨z0, hd0, vs0, r0, dd0⟩ := dk_of I2.hok (upd_same (H := H) (a := D) (o := .dK []))
  cases r0
  obtain ⟨z1, hd1, vs1, rel1, dd1⟩ := dk_of I2.hok g1
  refine merge_pairs (knd := mixKind X.prog X.w) (Ne.symm nx) hd1 mix_noref dd0 dd1 (by rw [← rel1.length]; simpa using z1) fun h2 dd2 sb2 => ?_
  have z2 : (mergeK [] kvs).length ≤ sizeLine := Nat.le_trans (length_mergeK kvs []) (by simpa using z1)
  have I3 : Inv X pins σ (upd (upd H D (.dK [])) D (.dK (mergeK [] kvs))) { s1 with heap := h2 } :=
    d_write (t' := s1.toks) I2 (by rw [upd_same]; exact True.intro) sb2 (by obtain ⟨o, _, _, ho, _⟩ := dd2; exact ⟨o, ho⟩) (dk_new z2 hd0 (rel1.merge .nil) dd2)
  generalize hH3 : upd (upd H D (.dK [])) D (.dK (mergeK [] kvs)) = H3 at I3
  have hk3 : ∀ a o, H a = some o → H3 a = some o := fun a o e => by
    have hne : a ≠ D := fun z => by rw [z, hDn] at e; cases e
    rw [← hH3, upd_ne hne, upd_ne hne]
    exact e
  have hD3 : H3 D = some (.dK (mergeK [] kvs)) := by rw [← hH3]; exact upd_same
  -- dict(zip(b, c))
  have ha : PA X [.Name y py, .Name z pz] (tCons (tVar j) (tCons (tVar k) tNil)) := pa_cons hy (pa_cons hz pa_nil)
  refine Call_ (ld_blt I3 gd md PyProof.Rows.boot_dict (PyProof.Rows.callWith_type1 (PyProof.Rows.args_cons ?_ rfl) rfl rfl))
  refine Call_ (ld_blt I3 gz mz PyProof.Rows.boot_zip (PyProof.Rows.callWith_type1 (thn (ha.run p1 pins _ σ H3 (fun vs H4 => vs = [.ref b, .ref c] ∧ H4 = H3) I3 ⟨.ref b, sy, .ref c, sz, rfl, rfl⟩) fun us s3 ⟨vs, H4, I4, r4, e4, e5⟩ => ?_) rfl rfl))
  subst e4 e5
  obtain ⟨u, u2, rfl, ru, ru2⟩ := vals2 r4
  cases ru
  cases ru2
  obtain ⟨its, rvs, ps, _⟩ := sq_of (k := .t) I4 (hk3 _ _ hb)
  obtain ⟨its2, rvs2, ps2, _⟩ := sq_of (k := .t) I4 (hk3 _ _ hcc)
  refine zip_begins2 (bgn .t b its.toArray) (bgn .t c its2.toArray) ps ps2 fun h' hz hTI hTO o1 o2 hsz hk => PyProof.Rows.args_nil ?_
  have I5 : Inv X pins σ H4 { s3 with heap := h' } := I4.kept (t' := s3.toks) hk
  have blt : b < s3.heap.objs.size := by obtain ⟨o, ho, _⟩ := ps; exact Heap.lt_size ho
  have clt : c < s3.heap.objs.size := by obtain ⟨o, ho, _⟩ := ps2; exact Heap.lt_size ho
  have S : ZipSep2 (s3.heap.objs.size + 4) (s3.heap.objs.size + 2) (s3.heap.objs.size + 3) s3.heap.objs.size (s3.heap.objs.size + 1) [s3.heap.objs.size, b] [s3.heap.objs.size + 1, c] := by
    have blt' : @LT.lt Nat _ b s3.heap.objs.size := blt
    have clt' : @LT.lt Nat _ c s3.heap.objs.size := clt
    constructor <;> (first
      | (intro z; have z' : (_ : Nat) = _ := z; omega)
      | (simp; done)
      | (intro z; simp only [List.mem_cons, List.not_mem_nil, or_false] at z; rcases z with z | z <;> (have z' : @Eq Nat _ _ := z; omega)))
  have P := pairArgZ (prog := X.prog) (w := X.w) S (fun A hh => drw hh .t s3.heap.objs.size b (Nat.ne_of_lt blt) its.toArray) (fun A hh => drw hh .t (s3.heap.objs.size + 1) c (Nat.ne_of_lt (Nat.lt_succ_of_lt clt)) its2.toArray)
    (fun h st b' hb' => by
      obtain ⟨st1, st2⟩ := st
      simp only [List.mem_cons, List.not_mem_nil, or_false] at hb'
      rcases hb' with rfl | rfl
      · obtain ⟨o, e, _⟩ := it_obj st1; exact ⟨o, e⟩
      · obtain ⟨o, e, _⟩ := st2; exact ⟨o, e⟩)
    (fun h st b' hb' => by
      obtain ⟨st1, st2⟩ := st
      simp only [List.mem_cons, List.not_mem_nil, or_false] at hb'
      rcases hb' with rfl | rfl
      · obtain ⟨o, e, _⟩ := it_obj st1; exact ⟨o, e⟩
      · obtain ⟨o, e, _⟩ := st2; exact ⟨o, e⟩)
    (fun i h h' st hk => ⟨it_keep st.1 fun o e => hk _ (by simp) o e, st.2.at fun o e => hk _ (by simp) o e⟩)
    (fun i h h' st hk => ⟨it_keep st.1 fun o e => hk _ (by simp) o e, st.2.at fun o e => hk _ (by simp) o e⟩)
  obtain ⟨kps, hkv, hkl, hkp⟩ := kv_pairs rvs rvs2
  have hsz5 : h'.objs.size = s3.heap.objs.size + 5 := hsz
  refine PySem.call_dict_pairs (knd := mixKind X.prog X.w) (kvs := kps) P (I5.ok.hd hc) ⟨hz, hTI, ⟨_, _, hTO⟩, ⟨it_new o1, ps.at fun o e => hk _ o e⟩, ⟨it_new o2, ps2.at fun o e => hk _ o e⟩⟩ ⟨?_, ?_⟩ ?_ fun h5 tk dd5 hk5 => ?_
  · rw [hkl, List.size_toArray, List.size_toArray]
  · intro i key v ⟨e1, e2⟩
    obtain ⟨k, e3, e4⟩ := hkp i key v (by simpa using e1) (by simpa using e2)
    exact ⟨k, e3, e4 _ _⟩
  · have e1 := rvs.length
    rw [List.length_map] at e1
    have e2 : min its.toArray.size its2.toArray.size ≤ its.length := by rw [List.size_toArray]; exact Nat.min_le_left ..
    have e3 : its.length ≤ LIM := by omega
    exact Nat.le_trans e2 (le_line e3)
  have keep5 : ∀ b o, s3.heap.get? b = some o → h5.get? b = some o := fun b' o e => by
    have lt : @LT.lt Nat _ b' s3.heap.objs.size := Heap.lt_size e
    refine hk5 b' o (fun z => ?_) (hk b' o e)
    simp only [List.mem_cons, List.not_mem_nil, or_false] at z
    rcases z with z | z | z | z <;> (have z' : @Eq Nat b' _ := z; omega)
  have hle : s3.heap.objs.size ≤ h'.objs.size := by omega
  have hqn : H4 h'.objs.size = none := I4.hok.fresh hle
  have qD : D ≠ h'.objs.size := fun e => by rw [← e, hD3] at hqn; cases hqn
  have zk : (mergeK [] (pairsK is zs)).length ≤ sizeLine := by
    refine Nat.le_trans (length_mergeK _ []) ?_
    have e1 : (pairsK is zs).length ≤ is.length := by unfold pairsK; rw [List.length_zip, List.length_map]; exact Nat.min_le_left ..
    have e2 : is.length ≤ LIM := by omega
    simp only [List.length_nil, Nat.zero_add]
    exact Nat.le_trans e1 (le_line e2)
  have I6 : Inv X pins σ (upd H4 h'.objs.size (.dK (mergeK [] (pairsK is zs)))) { s3 with heap := h5, toks := tk } :=
    I4.laid (t' := tk) keep5 hle (show ObjOk X.prog X.w _ _ _ (.dK (mergeK [] (pairsK is zs))) from ⟨zk, beq_eq_false_iff_ne.mpr (Nat.ne_of_gt (Nat.lt_of_lt_of_le I4.big hle)), merged [] kps, KV.merge hkv .nil, dd5⟩)
  refine ⟨h'.objs.size, rfl, ?_⟩
  obtain ⟨y0, yd0, us0, rel0, ee0⟩ := dk_of I6.hok (show upd H4 h'.objs.size (.dK (mergeK [] (pairsK is zs))) D = some (.dK (mergeK [] kvs)) by rw [upd_ne qD]; exact hD3)
  obtain ⟨y1, yd1, us1, rel2, ee1⟩ := dk_of I6.hok (upd_same (H := H4) (a := h'.objs.size) (o := .dK (mergeK [] (pairsK is zs))))
  have hlen : (mergeK (mergeK [] kvs) (mergeK [] (pairsK is zs))).length ≤ LIM := by
    have e1 := length_mergeK (mergeK [] (pairsK is zs)) (mergeK [] kvs)
    have e2 := length_mergeK kvs []
    have e3 := length_mergeK (pairsK is zs) []
    have e4 : (pairsK is zs).length ≤ is.length := by unfold pairsK; rw [List.length_zip, List.length_map]; exact Nat.min_le_left ..
    simp only [List.length_nil, Nat.zero_add] at e2 e3
    omega
  refine merge_pairs (knd := mixKind X.prog X.w) qD yd1 mix_noref ee0 ee1 ?_ fun h6 dd6 sb6 => ?_
  · rw [← rel0.length, ← rel2.length]
    have e2 := length_mergeK kvs []
    have e3 := length_mergeK (pairsK is zs) []
    have e4 : (pairsK is zs).length ≤ is.length := by unfold pairsK; rw [List.length_zip, List.length_map]; exact Nat.min_le_left ..
    simp only [List.length_nil, Nat.zero_add] at e2 e3
    have e5 : (mergeK [] kvs).length + (mergeK [] (pairsK is zs)).length ≤ LIM := by omega
    exact le_line e5
  have I7 := d_write (t' := tk) I6 (by rw [upd_ne qD, hD3]; exact True.intro) sb6 (by obtain ⟨o, _, _, ho, _⟩ := dd6; exact ⟨o, ho⟩) (dk_new (le_line hlen) yd0 (rel2.merge rel0) dd6)
  refine ⟨.ref D, _, I7, rfl, q D _ hDn (fun a o e => ?_) upd_same⟩
  have n1 : a ≠ D := fun z => by rw [z, hDn] at e; cases e
  have n2 : a ≠ h'.objs.size := fun z => by
    have e' := hk3 a o e
    rw [z, hqn] at e'; cases e'
  rw [upd_ne n1, upd_ne n2]
  exact hk3 a o e
end
section
variable {K : PySem.W.Frag} {F : FT} {σ : L2.St} {H : Hp} {Q : VK}
theorem puts_pairs {M : Addr → Prop} {T : Option Addr} : ∀ {is : List Int} {bs : List D} {zs : List V} {kvs : List (Key × V)} {ks : List Int} {vs : List D}, Rps K M T H bs zs → kvs.map (·.1) = ks.map Sum.inl → Rps K M T H vs (kvs.map (·.2)) →
    (mergeK kvs (pairsK is zs)).map (·.1) = (putsD ks vs is bs).1.map Sum.inl ∧ Rps K M T H (putsD ks vs is bs).2 ((mergeK kvs (pairsK is zs)).map (·.2))
  | [], bs, zs, kvs, ks, vs, r, e, q => by
    show (mergeK kvs []).map _ = _ ∧ _
    cases bs <;> exact ⟨e, q⟩
  | i :: is, [], zs, kvs, ks, vs, r, e, q => by
    have e1 : zs = [] := r
    subst e1
    exact ⟨e, q⟩
  | i :: is, b :: bs, zs, kvs, ks, vs, ⟨z, zr, e1, r1, r2⟩, e, q => by
    subst e1
    obtain ⟨p1, p2⟩ := put_ok (k := i) r1 e q
    exact puts_pairs (is := is) r2 p1 p2
theorem putsD_nl : ∀ {is : List Int} {bs : List D} {ks : List Int} {vs : List D}, D.nls bs = true → D.nls vs = true → D.nls (putsD ks vs is bs).2 = true
  | [], bs, ks, vs, _, h => by cases bs <;> exact h
  | i :: is, [], ks, vs, _, h => h
  | i :: is, b :: bs, ks, vs, hb, h => by
    have hb2 : b.nl = true ∧ D.nls bs = true := by simpa [D.nls] using hb
    exact putsD_nl (is := is) hb2.2 (putD_nl hb2.1 h)
theorem pairs_self : ∀ {kvs : List (Key × V)} {ks : List Int}, kvs.map (·.1) = ks.map Sum.inl → pairsK ks (kvs.map (·.2)) = kvs
  | [], [], _ => rfl
  | [], k :: ks, h => by simp at h
  | p :: kvs, [], h => by simp at h
  | p :: kvs, k :: ks, h => by
    simp only [List.map_cons, List.cons.injEq] at h
    have := pairs_self h.2
    unfold pairsK at this ⊢
    simp only [List.map_cons, List.zip_cons_cons, this, ← h.1]
theorem i_dmg {i j k : Nat} (h : tE K F (.dmg i j k) σ H Q) : tDmg i j k σ H Q := by
  obtain ⟨ρ, W, T, ts, r, ts', s, e, kk⟩ := h
  simp only [ev] at e
  split at e <;> try (simp at e; done)
  rename_i x y z g1 g2 g3
  obtain ⟨d, e1, e2⟩ := Option.map_eq_some_iff.mp e
  simp only [Prod.mk.injEq] at e2
  obtain ⟨rfl, rfl⟩ := e2
  unfold dmgD at e1
  split at e1 <;> try (simp at e1; done)
  rename_i ks vs as bs
  split at e1 <;> try (simp at e1; done)
  rename_i is e3
  split at e1 <;> try (simp at e1; done)
  rename_i hc
  simp only [Option.some.injEq] at e1
  subst e1
  have e4 := asInts_eq e3
  subst e4
  obtain ⟨hl, hn1, hn2⟩ := hc
  obtain ⟨v1, A1, s1, w1, ax, kvs, rfl, h1, m1, l1, k1, q1⟩ := s.slot i _ g1
  obtain ⟨v2, A2, s2, w2, b, ys, rfl, h2, m2, l2, q2⟩ := s.slot j _ g2
  obtain ⟨v3, A3, s3, w3, c, zs, rfl, h3, m3, l3, q3⟩ := s.slot k _ g3
  have e5 := q2.int_eq
  subst e5
  have hk : kvs.length = ks.length := by have := congrArg List.length k1; simpa using this
  refine ⟨ax, kvs, b, is, c, zs, s1, h1, s2, h2, s3, h3, by simpa [hk] using hl, fun p H' hp keep hat => ?_⟩
  have st : Step T H H' ts := ⟨fun a o g _ => keep a o g, by
    have t := s.tin
    cases hT : T with
    | none => trivial
    | some a =>
      rw [hT] at t
      exact ⟨keep a _ t.1, t.2⟩⟩
  obtain ⟨a1, a2⟩ := puts_pairs (is := ks) (kvs := []) (ks := []) (vs := []) q1 rfl rfl
  rw [pairs_self k1] at a1 a2
  obtain ⟨b1, b2⟩ := puts_pairs (is := is) (kvs := []) (ks := []) (vs := []) q3 rfl rfl
  obtain ⟨c1, c2⟩ := puts_pairs (is := (putsD [] [] is bs).1) b2 a1 a2
  rw [pairs_self b1] at c1 c2
  have hnl : D.nls (putsD (putsD [] [] ks vs).1 (putsD [] [] ks vs).2 (putsD [] [] is bs).1 (putsD [] [] is bs).2).2 = true := putsD_nl (putsD_nl hn2 rfl) (putsD_nl hn1 rfl)
  have c3 := Rps.nlH (M' := Mof W T) (T' := T) (H' := H') (fun a vs g => ⟨keep a _ g, fun z => by
    obtain ⟨ws, g'⟩ := s.lists a z
    rw [g] at g'; cases g'⟩) hnl c2
  have hpM : ¬ Mof W T p := fun z => s.live p z hp
  have hlen : (mergeK (mergeK [] kvs) (mergeK [] (pairsK is zs))).length ≤ LIM := by
    have z1 := length_mergeK (mergeK [] (pairsK is zs)) (mergeK [] kvs)
    have z2 := length_mergeK kvs []
    have z3 := length_mergeK (pairsK is zs) []
    have z4 : (pairsK is zs).length ≤ is.length := by unfold pairsK; rw [List.length_zip, List.length_map]; exact Nat.min_le_left ..
    simp only [List.length_nil, Nat.zero_add, List.length_map] at z2 z3 hl
    omega
  exact kk _ H' [] st (.p ⟨p, _, rfl, hat, hpM, hlen, c1, c3⟩)
end
end Lt

namespace Lt
open PySem PySem.Spec PyProof.Rows L2

/-! ### the look at the text: does an expression say what a term says? -/
structure G where
  fns : Nat → Option (Str × Nat)
  gi : Str → Option Int
  gs : Str → Option Str
structure Ck where
  v : List Str → Scope → Expr → Bool
  t : List Str → Scope → Expr → Bool
  l : List Str → Scope → List Expr → Bool
  o : List Str → Scope → Option Expr → Bool
  i : List Str → Scope → Expr → Expr → Bool
def nostar : Expr → Bool
  | .Starred _ _ => false
  | _ => true
def plainIx : Expr → Bool
  | .Slice _ _ _ _ => false
  | _ => true
def noset : Expr → Bool
  | .Set _ _ _ => false
  | _ => true
def istup : Expr → Bool
  | .Tuple _ _ _ => true
  | _ => false
def valT : Expr → Bool
  | .Call _ _ _ _ => true
  | .Name _ _ => true
  | _ => false
def okBase : Expr → Bool
  | .Name _ _ => true
  | .Call _ (_ :: _) _ _ => true
  | .Subscript _ _ _ => true
  | _ => false
def vis (sc : Scope) (x : Str) : Bool := match sc.names.lookup x with
  | some .local => true
  | some .cell => true
  | some .free => true
  | _ => false
def loc (sc : Scope) (x : Str) : Bool := match sc.names.lookup x with
  | some .local => true
  | some .cell => true
  | _ => false
def glo (sc : Scope) (x : Str) : Bool := match sc.names.lookup x with
  | some .globalImplicit => true
  | _ => false
def nodbg (x : Str) : Bool := !(x == ("__debug__" : Str)) && !(x == ("__classdict__" : Str))
def biN : Bi → Str
  | .len => "len"
  | .all_ => "all"
  | .any_ => "any"
  | .tuple => "tuple"
  | .list => "list"
  | .abs => "abs"
  | .int => "int"
  | .max2 => "max"
  | .min2 => "min"
  | .maxl => "max"
  | .sorted => "sorted"
def isYes : Tm → Bool
  | .bl true => true
  | _ => false
def isNl : Tm → Bool
  | .nl => true
  | _ => false
def ownP (N : List Str) (own : List Nat) : List (Str × Nat) := own.map fun j => ((N[j]?).getD "", j)
def ckNms (N : List Str) (sc : Scope) : List Nat → List Expr → Bool
  | [], [] => true
  | i :: is, .Name x _ :: es => decide (N[i]? = some x) && loc sc x && ckNms N sc is es
  | _, _ => false
def ckTg (N : List Str) (sc : Scope) : Tg → Expr → Bool
  | .one i, .Name x _ => decide (N[i]? = some x) && loc sc x
  | .many is, .Tuple es _ _ => ckNms N sc is es
  | _, _ => false
def subL (a b : List Nat) : Bool := a.all fun j => decide (j ∈ b)
def noV : List Str → Scope → Expr → Bool := fun _ _ _ => false
def noL : List Str → Scope → List Expr → Bool := fun _ _ _ => false
def noO : List Str → Scope → Option Expr → Bool := fun _ _ _ => false
def noI : List Str → Scope → Expr → Expr → Bool := fun _ _ _ _ => false
def ckV (v : List Str → Scope → Expr → Bool) : Ck := ⟨v, fun N sc e => valT e && v N sc e, noL, noO, noI⟩
def ckB (op : Operator) (a b : Ck) : Ck := ckV fun N sc e => match e with
  | .BinOp x o y _ => decide (o = op) && a.v N sc x && b.v N sc y
  | _ => false
def chk (g : G) : Tm → Ck
  | .var i => ckV fun N sc e => match e with
    | .Name x _ => decide (N[i]? = some x) && vis sc x && nodbg x
    | _ => false
  | .int i => ckV fun _ _ e => match e with
    | .Constant (.int k) _ _ => decide (k = i)
    | _ => false
  | .str i => ckV fun _ _ e => match e with
    | .Constant (.str k) _ _ => decide (k = i)
    | _ => false
  | .bl i => ckV fun _ _ e => match e with
    | .Constant (.bool k) _ _ => decide (k = i)
    | _ => false
  | .non => ckV fun _ _ e => match e with
    | .Constant .none _ _ => true
    | _ => false
  | .glb x i => ckV fun _ sc e => match e with
    | .Name y _ => decide (y = x) && glo sc x && nodbg x && decide (g.gi x = some i)
    | _ => false
  | .gls x i => ckV fun _ sc e => match e with
    | .Name y _ => decide (y = x) && glo sc x && nodbg x && decide (g.gs x = some i)
    | _ => false
  | .nl => ⟨noV, noV, fun _ _ es => es.isEmpty, fun _ _ o => o.isNone, noI⟩
  | .cn a r => ⟨noV, noV, fun N sc es => match es with
    | e :: es => nostar e && (chk g a).v N sc e && (chk g r).l N sc es
    | [] => false, noO, noI⟩
  | .cs a r => ⟨noV, noV, fun N sc es => match es with
    | .Starred e _ :: es => (chk g a).v N sc e && (chk g r).l N sc es
    | _ => false, noO, noI⟩
  | .tup r => ckV fun N sc e => match e with
    | .Tuple es _ _ => (chk g r).l N sc es
    | _ => false
  | .lst r => ckV fun N sc e => match e with
    | .List es _ => (chk g r).l N sc es
    | _ => false
  | .add a b => ckB .Add (chk g a) (chk g b)
  | .sub a b => ckB .Sub (chk g a) (chk g b)
  | .mul a b => ckB .Mult (chk g a) (chk g b)
  | .mod a b => ckB .Mod (chk g a) (chk g b)
  | .fdiv a b => ckB .FloorDiv (chk g a) (chk g b)
  | .pow a b => ckB .Pow (chk g a) (chk g b)
  | .neg a => ckV fun N sc e => match e with
    | .UnaryOp .USub x _ => (chk g a).v N sc x
    | _ => false
  | .cmp o a b =>
    let f : List Str → Scope → Expr → Bool := fun N sc e => match e with
      | .Compare x [p] [y] _ => decide (p = copE o) && !behindInMarks p y && (chk g a).v N sc x && (chk g b).v N sc y
      | _ => false
    ⟨f, f, noL, noO, noI⟩
  | .chn o1 o2 a b c =>
    let f : List Str → Scope → Expr → Bool := fun N sc e => match e with
      | .Compare x [p, q] [y, z] _ => decide (p = copE o1) && decide (q = copE o2) && !lastMarks [p, q] [y, z] && (chk g a).v N sc x && (chk g b).v N sc y && (chk g c).v N sc z
      | _ => false
    ⟨f, f, noL, noO, noI⟩
  | .and_ a b => ⟨fun N sc e => match e with
      | .BoolOp .And (x :: y :: rest) pos => (chk g a).v N sc x && (match rest with
        | [] => (chk g b).v N sc y
        | z :: rest => (chk g b).v N sc (.BoolOp .And (y :: z :: rest) pos))
      | _ => false,
    fun N sc e => match e with
      | .BoolOp .And (x :: y :: rest) pos => (chk g a).t N sc x && (match rest with
        | [] => (chk g b).t N sc y
        | z :: rest => (chk g b).t N sc (.BoolOp .And (y :: z :: rest) pos))
      | _ => false, noL, noO, noI⟩
  | .or_ a b => ⟨fun N sc e => match e with
      | .BoolOp .Or (x :: y :: rest) pos => (chk g a).v N sc x && (match rest with
        | [] => (chk g b).v N sc y
        | z :: rest => (chk g b).v N sc (.BoolOp .Or (y :: z :: rest) pos))
      | _ => false,
    fun N sc e => match e with
      | .BoolOp .Or (x :: y :: rest) pos => (chk g a).t N sc x && (match rest with
        | [] => (chk g b).t N sc y
        | z :: rest => (chk g b).t N sc (.BoolOp .Or (y :: z :: rest) pos))
      | _ => false, noL, noO, noI⟩
  | .not_ a => ⟨fun N sc e => match e with
      | .UnaryOp .Not x _ => (chk g a).v N sc x
      | _ => false,
    fun N sc e => match e with
      | .UnaryOp .Not x _ => (chk g a).t N sc x
      | _ => false, noL, noO, noI⟩
  | .orl a b => ckV fun N sc e => match e with
    | .BoolOp .Or [x, y] _ => (chk g a).v N sc x && (chk g b).v N sc y
    | _ => false
  | .ite c a b => ckV fun N sc e => match e with
    | .IfExp z x y _ => (chk g c).t N sc z && (chk g a).v N sc x && (chk g b).v N sc y
    | _ => false
  | .fn f r => ckV fun N sc e => match e with
    | .Call (.Name x _) es [] _ => decide ((g.fns f).map (·.1) = some x) && glo sc x && nodbg x && es.all nostar && (!es.isEmpty || isNl r) && (chk g r).l N sc es
    | _ => false
  | .fnt f a => ckV fun N sc e => match e with
    | .Call (.Name x _) [e] [] _ => decide (g.fns f = some (x, 1)) && glo sc x && nodbg x && nostar e && (chk g a).v N sc e
    | _ => false
  | .bi b r => ckV fun N sc e => match e with
    | .Call (.Name x _) (e :: es) [] _ => decide (x = biN b) && glo sc x && (e :: es).all nostar && (chk g r).l N sc (e :: es)
    | _ => false
  | .isi ks a => ckV fun N sc e => match e with
    | .Call (.Name x _) [e, u] [] _ => decide (x = "isinstance") && glo sc x && nostar e && (chk g a).v N sc e && (match ks, u with
      | [y], .Name c _ => decide (c = Str.ofString (tyN y)) && glo sc c
      | [y, z], .Tuple [.Name c _, .Name d _] _ _ => decide (c = Str.ofString (tyN y)) && glo sc c && decide (d = Str.ofString (tyN z)) && glo sc d
      | _, _ => false)
    | _ => false
  | .lset a => ckV fun N sc e => match e with
    | .Call (.Name x _) [.Call (.Name y _) [e] [] _] [] _ => decide (x = "len") && glo sc x && decide (y = "set") && glo sc y && nostar e && (chk g a).v N sc e
    | _ => false
  | .lrng a => ckV fun N sc e => match e with
    | .Call (.Name x _) [.Call (.Name y _) [e] [] _] [] _ => decide (x = "list") && glo sc x && decide (y = "range") && glo sc y && nostar e && (chk g a).v N sc e
    | _ => false
  | .idx a b => ckV fun N sc e => match e with
    | .Subscript x y _ => plainIx y && (chk g a).v N sc x && (chk g b).v N sc y
    | _ => false
  | .slc a l h => ckV fun N sc e => match e with
    | .Subscript x (.Slice lo hi none _) _ => (chk g a).v N sc x && (chk g l).o N sc lo && (chk g h).o N sc hi
    | _ => false
  | .mix a b => ckV fun N sc e => match e with
    | .Call (.Attribute x m apos) [e] [] cpos => decide (m = "index") && okBase x && (apos.endLine == cpos.line) && nostar e && (chk g a).v N sc x && (chk g b).v N sc e
    | _ => false
  | .lc own tg it cd elt _ => ckV fun N sc e => match e with
    | .ListComp el [⟨tt, iter, ifs, n⟩] scope _ => decide (n = 0) && blkC N sc scope (ownP N own) && noset iter && subL (tgI tg) own && ckTg N scope tg tt && (chk g it).i N sc tt iter && (match ifs with
      | [] => isYes cd
      | [c] => (chk g cd).t N scope c
      | _ => false) && (chk g elt).v N scope el
    | _ => false
  | .lc2 own i it j jt elt => ckV fun N sc e => match e with
    | .ListComp el [⟨tt, iter, [], n⟩, ⟨tu, jter, [], m⟩] scope _ => decide (n = 0) && decide (m = 0) && blkC N sc scope (ownP N own) && noset iter && noset jter && subL [i, j] own && ckTg N scope (.one i) tt && ckTg N scope (.one j) tu
      && (chk g it).i N sc tt iter && (chk g jt).i N scope tu jter && (chk g elt).v N scope el
    | _ => false
  | .dc own tg it kx vx => ckV fun N sc e => match e with
    | .DictComp k v [⟨tt, iter, [], n⟩] scope _ => decide (n = 0) && blkC N sc scope (ownP N own) && noset iter && subL (tgI tg) own && ckTg N scope tg tt && (chk g it).i N sc tt iter && (chk g kx).v N scope k && (chk g vx).v N scope v
    | _ => false
  | .dmg i j k => ckV fun N sc e => match e with
    | .Dict [none, none] [.Name x _, .Call (.Name d _) [.Call (.Name z _) [.Name y _, .Name w _] [] _] [] _] _ => decide (d = "dict") && glo sc d && decide (z = "zip") && glo sc z && decide (N[i]? = some x) && vis sc x && nodbg x && decide (N[j]? = some y) && vis sc y && nodbg y && decide (N[k]? = some w) && vis sc w && nodbg w
    | _ => false
  | .rng a => ⟨noV, noV, noL, noO, fun N sc _ e => match e with
    | .Call (.Name x _) [e] [] _ => decide (x = "range") && glo sc x && nostar e && (chk g a).v N sc e
    | _ => false⟩
  | .enm a => ⟨noV, noV, noL, noO, fun N sc t e => istup t && (match e with
    | .Call (.Name x _) [e] [] _ => decide (x = "enumerate") && glo sc x && nostar e && (chk g a).v N sc e
    | _ => false)⟩
  | .zp a b => ⟨noV, noV, noL, noO, fun N sc t e => istup t && (match e with
    | .Call (.Name x _) [e, u] [] _ => decide (x = "zip") && glo sc x && nostar e && nostar u && (chk g a).v N sc e && (chk g b).v N sc u
    | _ => false)⟩
  | .sq a => ⟨noV, noV, noL, noO, fun N sc _ e => (chk g a).v N sc e⟩
  | .ch a => ⟨noV, noV, noL, noO, fun N sc _ e => (chk g a).v N sc e⟩
  | .sm a => ⟨noV, noV, noL, fun N sc o => match o with
    | some e => (chk g a).v N sc e
    | none => false, noI⟩
  | .brw a => ⟨(chk g a).v, (chk g a).t, noL, noO, noI⟩
end Lt

namespace Lt
open PySem PySem.Spec PyProof.Rows L2

def ScR (sc d : Scope) : Prop := ∀ x k, sc.names.lookup x = some k → ∃ k', d.names.lookup x = some k' ∧ (k' = k ∨ (k = .free ∧ k' = .cell))
def bNames : List Str := ["len", "all", "any", "tuple", "list", "abs", "int", "max", "min", "sorted", "isinstance", "set", "range", "enumerate", "zip", "dict", "bool", "str"]
structure Okx (g : G) (F : FT) (lv : Nat) (N : List Str) (sc : Scope) (X : Cx) : Prop where
  nm : X.N = N
  nd : N.Nodup
  calm : X.calm = true
  room : Room lv X.A
  scr : ScR sc X.env.scope
  fn : ∀ x, sc.names.lookup x = some .cell → X.fn x = true
  fns : ∀ n x m, g.fns n = some (x, m) → C8.Cal X.prog X.w X.K X.mg X.base lv x (spOf X.K m (F n)) [] ∧ (∀ ds ts q, F n ds ts = some q → ds.length = m)
  gi : ∀ x i, g.gi x = some i → ∃ u, X.mg x = some u ∧ RelV (.int i) u
  gs : ∀ x i, g.gs x = some i → ∃ u, X.mg x = some u ∧ RelV (.str i) u
  bn : ∀ x ∈ bNames, X.mg x = none
section
variable {g : G} {F : FT} {lv : Nat} {N : List Str} {sc : Scope} {X : Cx} {x : Str}
theorem Okx.vis (o : Okx g F lv N sc X) (h : vis sc x = true) : Vis X.env.scope x := by
  unfold Lt.vis at h
  split at h
  · rename_i e
    obtain ⟨k, e1, e2⟩ := o.scr _ _ e
    rcases e2 with rfl | ⟨e2, _⟩
    · exact .inl e1
    · cases e2
  · rename_i e
    obtain ⟨k, e1, e2⟩ := o.scr _ _ e
    rcases e2 with rfl | ⟨e2, _⟩
    · exact .inr (.inl e1)
    · cases e2
  · rename_i e
    obtain ⟨k, e1, e2⟩ := o.scr _ _ e
    rcases e2 with rfl | ⟨_, rfl⟩
    · exact .inr (.inr e1)
    · exact .inr (.inl e1)
  · simp at h
theorem Okx.loc (o : Okx g F lv N sc X) (h : loc sc x = true) : Loc X.env.scope x ∧ (X.fn x = true ∨ X.env.scope.names.lookup x = some .local) := by
  unfold Lt.loc at h
  split at h
  · rename_i e
    obtain ⟨k, e1, e2⟩ := o.scr _ _ e
    rcases e2 with rfl | ⟨e2, _⟩
    · exact ⟨.inl e1, .inr e1⟩
    · cases e2
  · rename_i e
    obtain ⟨k, e1, e2⟩ := o.scr _ _ e
    rcases e2 with rfl | ⟨e2, _⟩
    · exact ⟨.inr e1, .inl (o.fn _ e)⟩
    · cases e2
  · simp at h
theorem Okx.glo (o : Okx g F lv N sc X) (h : glo sc x = true) : Gl X x := by
  unfold Lt.glo at h
  split at h
  · rename_i e
    obtain ⟨k, e1, e2⟩ := o.scr _ _ e
    rcases e2 with rfl | ⟨e2, _⟩
    · exact e1
    · cases e2
  · simp at h
theorem nodbg_ok (h : nodbg x = true) : (x == ("__debug__" : Str)) = false ∧ (x == ("__classdict__" : Str)) = false := by
  unfold nodbg at h
  simp only [Bool.and_eq_true, Bool.not_eq_true'] at h
  exact h
theorem scr_rel (scope d : Scope) : ScR scope (relS scope d) := by
  intro x k h
  show ∃ k', (scope.names.map fun (n, k) => if (k == NameKind.free && d.kind == .function && d.names.lookup n == some .cell) then (n, NameKind.cell) else (n, k)).lookup x = some k' ∧ _
  generalize scope.names = l at h
  induction l with
  | nil => simp at h
  | cons p r ih =>
    obtain ⟨n, k0⟩ := p
    rw [List.map_cons]
    rw [List.lookup_cons] at h
    show ∃ k', List.lookup x ((if (k0 == NameKind.free && d.kind == .function && d.names.lookup n == some .cell) = true then (n, NameKind.cell) else (n, k0)) :: (r.map _)) = some k' ∧ _
    cases hx : x == n with
    | true =>
      rw [hx] at h
      simp only [Option.some.injEq] at h
      subst h
      split
      · rename_i hc
        refine ⟨.cell, by rw [List.lookup_cons, hx], .inr ⟨?_, rfl⟩⟩
        simp only [Bool.and_eq_true] at hc
        exact eq_of_beq hc.1.1
      · exact ⟨k0, by rw [List.lookup_cons, hx], .inl rfl⟩
    | false =>
      rw [hx] at h
      obtain ⟨k', e1, e2⟩ := ih h
      refine ⟨k', ?_, e2⟩
      split <;> (rw [List.lookup_cons, hx]; exact e1)
/-- within a comprehension -/
theorem Okx.blk (o : Okx g F lv N sc X) {scope : Scope} (s : Shared) (H : Hp) (C : Addr) (cl : List (Str × Addr)) (fp : List Addr) : Okx g F lv N scope (X.blk s H scope (compEnvC scope cl C X.env) fp) :=
  ⟨o.nm, o.nd, o.calm, o.room, scr_rel scope X.env.scope, fun x e => by
    show (scope.names.lookup x == some .cell) = true
    rw [e]; rfl, o.fns, o.gi, o.gs, o.bn⟩
theorem Okx.blkOk (o : Okx g F lv N sc X) {scope : Scope} {own : List (Str × Nat)} (h : blkC N sc scope own = true) : BlkOk X.N X.env.scope scope own := by
  have b := blkOk_by h
  rw [o.nm]
  refine ⟨b.kind, b.uniq, b.ix, fun y hy e => ?_, b.own⟩
  rcases b.free y hy e with q | q
  · obtain ⟨k, e1, e2⟩ := o.scr _ _ q
    rcases e2 with rfl | ⟨e2, _⟩
    · exact .inl e1
    · cases e2
  · obtain ⟨k, e1, e2⟩ := o.scr _ _ q
    rcases e2 with rfl | ⟨_, rfl⟩
    · exact .inr e1
    · exact .inl e1
theorem ownP_ix {own : List Nat} : (ownP N own).map (·.2) = own := by
  unfold ownP
  rw [List.map_map]
  exact List.map_id _

/-! ### small facts of the text -/
theorem star_cons {e : Expr} {es : List Expr} {env : PySem.Env} (h : nostar e = true) : starEach (e :: es) env = (false, eval e env) :: starEach es env := by
  cases e <;> first | rfl | simp [nostar] at h
theorem star_none {es : List Expr} {env : PySem.Env} {pos : Pos} (h : es.all nostar = true) : (backTo pos (starEach es env)).any (·.1) = false := by
  induction es with
  | nil => rfl
  | cons e es ih =>
    simp only [List.all_cons, Bool.and_eq_true] at h
    rw [star_cons h.1]
    show (false || (backTo pos (starEach es env)).any (·.1)) = false
    rw [ih h.2]
    rfl
theorem plainIx_ok {b : Expr} (h : plainIx b = true) : PlainIx b := by
  intro o i
  cases b <;> first | rfl | simp [plainIx] at h
theorem noset_ok {e : Expr} (h : noset e = true) (env : PySem.Env) (x : Value) : foldedSetIterable e env x = pure x := by
  cases e <;> first | rfl | simp [noset] at h
theorem valT_ok {e : Expr} {env : PySem.Env} (h : valT e = true) (whole : Sem Value) : isTrue e env whole = (do let v ← whole; standAt e.pos; holding [v] (truthy v)) := by
  cases e <;> first | rfl | simp [valT] at h
theorem okBase_ok {e : Expr} {env : PySem.Env} {m : Str} (h : okBase e = true) : attributeBase e m env (eval e env) = eval e env := by
  cases e with
  | Name => rfl
  | Subscript => rfl
  | Call f as ks p =>
    cases as with
    | nil => simp [okBase] at h
    | cons a as =>
      cases f <;> rfl
  | _ => simp [okBase] at h
theorem biN_boot : ∀ b : Bi, bootBuiltins (biN b) = some (biV b)
  | .len => boot_len
  | .all_ => by decide +kernel
  | .any_ => by decide +kernel
  | .tuple => by decide +kernel
  | .list => by decide +kernel
  | .abs => by decide +kernel
  | .int => by decide +kernel
  | .max2 => by decide +kernel
  | .min2 => by decide +kernel
  | .maxl => by decide +kernel
  | .sorted => by decide +kernel
theorem biN_mem (b : Bi) : biN b ∈ bNames := by cases b <;> decide +kernel
theorem biN_dbg (b : Bi) : biN b ≠ "__name__" ∧ (biN b == ("__debug__" : Str)) = false := by cases b <;> decide +kernel
theorem tyN_boot : ∀ y : Ty, bootBuiltins (Str.ofString (tyN y)) = some (.type (tyN y))
  | .int => by decide +kernel
  | .bool => by decide +kernel
  | .tuple => by decide +kernel
  | .str => by decide +kernel
  | .list => by decide +kernel
theorem tyN_mem (y : Ty) : Str.ofString (tyN y) ∈ bNames := by cases y <;> decide +kernel
theorem tyN_dbg (y : Ty) : Str.ofString (tyN y) ≠ "__name__" ∧ (Str.ofString (tyN y) == ("__debug__" : Str)) = false := by cases y <;> decide +kernel
theorem pe_biX {b : Bi} {p pos : Pos} {e : Expr} {es : List Expr} {t : TA} (o : Okx g F lv N sc X) (hg : Lt.glo sc (biN b) = true) (hs : (e :: es).all nostar = true) (ha : PA X (e :: es) t) : PE X (.Call (.Name (biN b) p) (e :: es) [] pos) (tCB (biR X.K b) t) := by
  have hs2 := hs
  simp only [List.all_cons, Bool.and_eq_true] at hs2
  have hc := r_bi o.calm b
  have hv := biN_boot b
  have hn := biN_dbg b
  have hm := o.bn _ (biN_mem b)
  have hg2 := o.glo hg
  have fT : ∀ T : String, biV b = .type T → PE X (.Call (.Name (biN b) p) (e :: es) [] pos) (tCB (biR X.K b) t) := fun T hT => by
    rw [hT] at hc hv
    exact pe_callTy hc hg2 hm hv ha hn.1 hn.2 (star_cons hs2.1) (star_none hs2.2)
  have fB : ∀ T : String, biV b = .builtin T → PE X (.Call (.Name (biN b) p) (e :: es) [] pos) (tCB (biR X.K b) t) := fun T hT => by
    rw [hT] at hc hv
    exact pe_callB hc hg2 hm hv ha hn.1 hn.2 (star_cons hs2.1) (star_none hs2.2)
  cases b <;> first | exact fT _ rfl | exact fB _ rfl
theorem pe_tyX {y : Ty} {p : Pos} (o : Okx g F lv N sc X) (hg : Lt.glo sc (Str.ofString (tyN y)) = true) : PE X (.Name (Str.ofString (tyN y)) p) (tTy y) :=
  pe_bltn (o.glo hg) (o.bn _ (tyN_mem y)) (tyN_boot y) rfl (tyN_dbg y).1 (tyN_dbg y).2

/-! ### targets -/
theorem pgs_nms (o : Okx g F lv N sc X) : ∀ {is : List Nat} {es : List Expr}, ckNms N sc is es = true → PGs X es (gNms is) ∧ (assignEach es X.env).length = is.length ∧ (assignEach es X.env).findIdx? (·.1) = none
  | [], [], _ => ⟨pgs_nil, rfl, rfl⟩
  | [], e :: es, h => by simp [ckNms] at h
  | i :: is, [], h => by simp [ckNms] at h
  | i :: is, e :: es, h => by
    cases e <;> simp only [ckNms, Bool.and_eq_true, Bool.false_eq_true] at h
    case Name x p =>
    obtain ⟨⟨h1, h2⟩, h3⟩ := h
    obtain ⟨q1, q2, q3⟩ := pgs_nms o h3
    obtain ⟨l1, l2⟩ := o.loc h2
    refine ⟨pgs_cons (pg_name (by rw [o.nm]; exact o.nd) (by rw [o.nm]; exact of_decide_eq_true h1) l1 l2) q1, ?_, ?_⟩
    · show (assignEach es X.env).length + 1 = is.length + 1
      rw [q2]
    · show ((false, assign (.Name x p) X.env) :: assignEach es X.env).findIdx? (·.1) = none
      rw [List.findIdx?_cons, q3]
      rfl
theorem pg_tg (o : Okx g F lv N sc X) {tg : Tg} {e : Expr} (h : ckTg N sc tg e = true) : PG X e (tG X.K tg) := by
  cases tg with
  | one i =>
    cases e <;> simp only [ckTg, Bool.and_eq_true, Bool.false_eq_true] at h
    case Name x p =>
    obtain ⟨l1, l2⟩ := o.loc h.2
    exact pg_name (by rw [o.nm]; exact o.nd) (by rw [o.nm]; exact of_decide_eq_true h.1) l1 l2
  | many is =>
    cases e <;> simp only [ckTg, Bool.false_eq_true] at h
    case Tuple es k p =>
    obtain ⟨q1, q2, q3⟩ := pgs_nms o h
    exact pg_tup o.calm q1 q2 q3
end
end Lt

namespace Lt
open PySem PySem.Spec PyProof.Rows L2

structure CkOk (g : G) (F : FT) (lv : Nat) (tm : Tm) : Prop where
  v : ∀ {N : List Str} {sc : Scope} {X : Cx} {e : Expr}, Okx g F lv N sc X → (chk g tm).v N sc e = true → PE X e (tE X.K F tm)
  t : ∀ {N : List Str} {sc : Scope} {X : Cx} {e : Expr}, Okx g F lv N sc X → (chk g tm).t N sc e = true → PT X e (tT X.K F tm) ∧ ∀ op es pos, e = .BoolOp op es pos → PW X e (tT X.K F tm)
  l : ∀ {N : List Str} {sc : Scope} {X : Cx} {es : List Expr}, Okx g F lv N sc X → (chk g tm).l N sc es = true → PA X es (tL X.K F tm)
  o : ∀ {N : List Str} {sc : Scope} {X : Cx} {o : Option Expr}, Okx g F lv N sc X → (chk g tm).o N sc o = true → PO X o (tO X.K F tm)
  i : ∀ {N : List Str} {sc : Scope} {X : Cx} {tg e : Expr}, Okx g F lv N sc X → (chk g tm).i N sc tg e = true → PI X tg e (tI X.K F tm)
section
variable {g : G} {F : FT} {lv : Nat} {N : List Str} {sc : Scope} {X : Cx} {a b c t : Tm}
theorem ok_v {f : List Str → Scope → Expr → Bool} (h : chk g t = ckV f) (hv : ∀ {N : List Str} {sc : Scope} {X : Cx} {e : Expr}, Okx g F lv N sc X → f N sc e = true → PE X e (tE X.K F t)) : CkOk g F lv t := by
  refine ⟨fun o q => ?_, fun o q => ?_, fun o q => ?_, fun o q => ?_, fun o q => ?_⟩
  · rw [h] at q; exact hv o q
  · rw [h] at q
    have q2 := Bool.and_eq_true_iff.mp q
    refine ⟨PT.imp (pt_val (hv o q2.2) fun whole => valT_ok q2.1 whole) fun σ H Q z => tT_tE z, fun op es pos e => ?_⟩
    subst e
    have := q2.1
    simp [valT] at this
  · rw [h] at q; simp [ckV, noL] at q
  · rw [h] at q; simp [ckV, noO] at q
  · rw [h] at q; simp [ckV, noI] at q
theorem ok_op {op : Operator} {f : D → D → Option R} {r : PySem.W.Frag → R2} (h : chk g t = ckB op (chk g a) (chk g b)) (ha : CkOk g F lv a) (hb : CkOk g F lv b) (he : ∀ ρ ts, ev F t ρ ts = ev2 f (ev F a ρ) (ev F b ρ) ts) (ho : ∀ K, Op2 K f (r K)) (hr : ∀ X : Cx, OpR X (binaryOp op) (r X.K)) : CkOk g F lv t := by
  refine ok_v h fun {N sc X e} o q => ?_
  cases e <;> simp only [Bool.false_eq_true] at q
  case BinOp x op' y p =>
  simp only [Bool.and_eq_true, decide_eq_true_eq] at q
  obtain ⟨⟨rfl, q1⟩, q2⟩ := q
  exact PE.imp (pe_op (hr X) (ha.v o q1) (hb.v o q2)) fun σ H Q z => i_op2 he (ho X.K) z
theorem units65 (o : Okx g F lv N sc X) : X.A.units + 65 < cLine := by have := o.room.un; omega
theorem i_brwT {σ : L2.St} {H : Hp} {Q : Bool → Hp → Prop} {K : PySem.W.Frag} (h : tT K F (.brw a) σ H Q) : tT K F a σ H Q := by
  obtain ⟨ρ, W, T, ts, c, ts', s, e, k⟩ := h
  simp only [ev] at e
  split at e
  · rename_i r1 ts1 e1
    split at e
    · rename_i hc
      simp only [Option.some.injEq, Prod.mk.injEq] at e
      obtain ⟨rfl, rfl⟩ := e
      exact ⟨_, _, T, ts, c, ts1, s.frozen, e1, fun H' st => k H' st⟩
    · simp at e
  · simp at e
/-- one of a kind: a list of arguments, a part of a slice, what is gone through -/
theorem ok_l {f : List Str → Scope → List Expr → Bool} (h : chk g t = ⟨noV, noV, f, noO, noI⟩) (hl : ∀ {N : List Str} {sc : Scope} {X : Cx} {e : List Expr}, Okx g F lv N sc X → f N sc e = true → PA X e (tL X.K F t)) : CkOk g F lv t := by
  refine ⟨fun o q => ?_, fun o q => ?_, fun o q => ?_, fun o q => ?_, fun o q => ?_⟩
  · rw [h] at q; simp [noV] at q
  · rw [h] at q; simp [noV] at q
  · rw [h] at q; exact hl o q
  · rw [h] at q; simp [noO] at q
  · rw [h] at q; simp [noI] at q
theorem ok_i {f : List Str → Scope → Expr → Expr → Bool} (h : chk g t = ⟨noV, noV, noL, noO, f⟩) (hi : ∀ {N : List Str} {sc : Scope} {X : Cx} {tg e : Expr}, Okx g F lv N sc X → f N sc tg e = true → PI X tg e (tI X.K F t)) : CkOk g F lv t := by
  refine ⟨fun o q => ?_, fun o q => ?_, fun o q => ?_, fun o q => ?_, fun o q => ?_⟩
  · rw [h] at q; simp [noV] at q
  · rw [h] at q; simp [noV] at q
  · rw [h] at q; simp [noL] at q
  · rw [h] at q; simp [noO] at q
  · rw [h] at q; exact hi o q
theorem ok_vt {fv ft : List Str → Scope → Expr → Bool} (h : chk g t = ⟨fv, ft, noL, noO, noI⟩) (hv : ∀ {N : List Str} {sc : Scope} {X : Cx} {e : Expr}, Okx g F lv N sc X → fv N sc e = true → PE X e (tE X.K F t))
    (ht : ∀ {N : List Str} {sc : Scope} {X : Cx} {e : Expr}, Okx g F lv N sc X → ft N sc e = true → PT X e (tT X.K F t) ∧ ∀ op es pos, e = .BoolOp op es pos → PW X e (tT X.K F t)) : CkOk g F lv t := by
  refine ⟨fun o q => ?_, fun o q => ?_, fun o q => ?_, fun o q => ?_, fun o q => ?_⟩
  · rw [h] at q; exact hv o q
  · rw [h] at q; exact ht o q
  · rw [h] at q; simp [noL] at q
  · rw [h] at q; simp [noO] at q
  · rw [h] at q; simp [noI] at q

theorem k_var {i : Nat} : CkOk g F lv (.var i) := ok_v rfl fun {N sc X e} o q => by
  split at q <;> try (simp at q; done)
  simp only [Bool.and_eq_true, decide_eq_true_eq] at q
  obtain ⟨d1, d2⟩ := nodbg_ok q.2
  exact PE.imp (pe_var (by rw [o.nm]; exact q.1.1) (o.vis q.1.2) d1 d2) fun σ H Q z => i_var z
theorem k_int {i : Int} : CkOk g F lv (.int i) := ok_v rfl fun {N sc X e} o q => by
  split at q <;> try (simp at q; done)
  simp only [decide_eq_true_eq] at q
  subst q
  exact PE.imp pe_int fun σ H Q z => i_cst (t := .int _) (d := .int _) (fun ρ ts => by simp only [ev]) (fun _ _ _ => rfl) z
theorem k_str {i : Str} : CkOk g F lv (.str i) := ok_v rfl fun {N sc X e} o q => by
  split at q <;> try (simp at q; done)
  simp only [decide_eq_true_eq] at q
  subst q
  exact PE.imp pe_str fun σ H Q z => i_cst (t := .str _) (d := .str _) (fun ρ ts => by simp only [ev]) (fun _ _ _ => rfl) z
theorem k_bl {i : Bool} : CkOk g F lv (.bl i) := ok_v rfl fun {N sc X e} o q => by
  split at q <;> try (simp at q; done)
  simp only [decide_eq_true_eq] at q
  subst q
  exact PE.imp pe_bl fun σ H Q z => i_cst (t := .bl _) (d := .bl _) (fun ρ ts => by simp only [ev]) (fun _ _ _ => rfl) z
theorem k_non : CkOk g F lv .non := ok_v rfl fun {N sc X e} o q => by
  split at q <;> try (simp at q; done)
  exact PE.imp pe_non fun σ H Q z => i_cst (t := .non) (d := .non) (fun ρ ts => by simp only [ev]) (fun _ _ _ => rfl) z
theorem k_glb {x : Str} {i : Int} : CkOk g F lv (.glb x i) := ok_v rfl fun {N sc X e} o q => by
  split at q <;> try (simp at q; done)
  simp only [Bool.and_eq_true, decide_eq_true_eq] at q
  obtain ⟨⟨⟨rfl, q1⟩, q2⟩, q3⟩ := q
  obtain ⟨u, h1, h2⟩ := o.gi _ _ q3
  exact PE.imp (pe_glob (o.glo q1) h1 h2 (nodbg_ok q2).1) fun σ H Q z => i_cst (t := .glb _ _) (d := .int _) (fun ρ ts => by simp only [ev]) (fun _ _ _ => rfl) z
theorem k_gls {x i : Str} : CkOk g F lv (.gls x i) := ok_v rfl fun {N sc X e} o q => by
  split at q <;> try (simp at q; done)
  simp only [Bool.and_eq_true, decide_eq_true_eq] at q
  obtain ⟨⟨⟨rfl, q1⟩, q2⟩, q3⟩ := q
  obtain ⟨u, h1, h2⟩ := o.gs _ _ q3
  exact PE.imp (pe_glob (o.glo q1) h1 h2 (nodbg_ok q2).1) fun σ H Q z => i_cst (t := .gls _ _) (d := .str _) (fun ρ ts => by simp only [ev]) (fun _ _ _ => rfl) z
theorem k_nl : CkOk g F lv .nl := by
  refine ⟨fun o q => ?_, fun o q => ?_, fun {N sc X es} o q => ?_, fun {N sc X oe} o q => ?_, fun o q => ?_⟩
  · simp [chk, noV] at q
  · simp [chk, noV] at q
  · cases es with
    | nil => exact PA.imp pa_nil fun σ H Q z => i_nl z
    | cons e es => simp [chk] at q
  · cases oe with
    | none => exact ⟨fun pins s σ H Q I z => po_none.run pins s σ H Q I (i_nlO z)⟩
    | some e => simp [chk] at q
  · simp [chk, noI] at q
theorem k_cn (ha : CkOk g F lv a) (hb : CkOk g F lv b) : CkOk g F lv (.cn a b) := ok_l rfl fun {N sc X es} o q => by
  cases es with
  | nil => simp at q
  | cons e es =>
    simp only [Bool.and_eq_true] at q
    exact PA.imp (pa_cons (ha.v o q.1.2) (hb.l o q.2) (star_cons q.1.1)) fun σ H Q z => i_cn z
theorem k_cs (ha : CkOk g F lv a) (hb : CkOk g F lv b) : CkOk g F lv (.cs a b) := ok_l rfl fun {N sc X es} o q => by
  cases es with
  | nil => simp at q
  | cons e es =>
    split at q <;> try (simp at q; done)
    rename_i heq
    cases heq
    simp only [Bool.and_eq_true] at q
    exact PA.imp (StX.pa_star (ha.v o q.1) (hb.l o q.2)) fun σ H Q z => i_cs z
theorem k_tup (ha : CkOk g F lv a) : CkOk g F lv (.tup a) := ok_v rfl fun {N sc X e} o q => by
  split at q <;> try (simp at q; done)
  exact PE.imp (pe_tup (ha.l o q)) fun σ H Q z => i_tup z
theorem k_lst (ha : CkOk g F lv a) : CkOk g F lv (.lst a) := ok_v rfl fun {N sc X e} o q => by
  split at q <;> try (simp at q; done)
  exact PE.imp (pe_lst (ha.l o q)) fun σ H Q z => i_lst z
theorem k_neg (ha : CkOk g F lv a) : CkOk g F lv (.neg a) := ok_v rfl fun {N sc X e} o q => by
  split at q <;> try (simp at q; done)
  exact PE.imp (pe_un un_neg (ha.v o q)) fun σ H Q z => i_op1 (fun ρ ts => by simp only [ev]) o_neg z
theorem k_cmp {p : Cop} (ha : CkOk g F lv a) (hb : CkOk g F lv b) : CkOk g F lv (.cmp p a b) := by
  refine ok_vt rfl (fun {N sc X e} o q => ?_) (fun {N sc X e} o q => ?_)
  · split at q <;> try (simp at q; done)
    simp only [Bool.and_eq_true, decide_eq_true_eq, Bool.not_eq_true'] at q
    obtain ⟨⟨⟨rfl, q1⟩, q2⟩, q3⟩ := q
    exact PE.imp (pe_cmpR (r_cop (units65 o) p) (ha.v o q2) (hb.v o q3) q1) fun σ H Q z => i_cmp z
  · split at q <;> try (simp at q; done)
    simp only [Bool.and_eq_true, decide_eq_true_eq, Bool.not_eq_true'] at q
    obtain ⟨⟨⟨rfl, q1⟩, q2⟩, q3⟩ := q
    exact ⟨PT.imp (pt_cmpR (r_cop (units65 o) p) (ha.v o q2) (hb.v o q3) q1) fun σ H Q z => i_cmpT z, fun _ _ _ z => by cases z⟩
theorem k_chn {p1 p2 : Cop} (ha : CkOk g F lv a) (hb : CkOk g F lv b) (hc : CkOk g F lv c) : CkOk g F lv (.chn p1 p2 a b c) := by
  refine ok_vt rfl (fun {N sc X e} o q => ?_) (fun {N sc X e} o q => ?_)
  · split at q <;> try (simp at q; done)
    simp only [Bool.and_eq_true, decide_eq_true_eq, Bool.not_eq_true'] at q
    obtain ⟨⟨⟨⟨⟨rfl, rfl⟩, q1⟩, q2⟩, q3⟩, q4⟩ := q
    exact PE.imp (pe_chain (r_cop (units65 o) p1) (r_cop (units65 o) p2) (ha.v o q2) (hb.v o q3) (hc.v o q4) q1) fun σ H Q z => i_chn z
  · split at q <;> try (simp at q; done)
    simp only [Bool.and_eq_true, decide_eq_true_eq, Bool.not_eq_true'] at q
    obtain ⟨⟨⟨⟨⟨rfl, rfl⟩, q1⟩, q2⟩, q3⟩, q4⟩ := q
    exact ⟨PT.imp (pt_chain (r_cop (units65 o) p1) (r_cop (units65 o) p2) (ha.v o q2) (hb.v o q3) (hc.v o q4) q1) fun σ H Q z => i_chnT z, fun _ _ _ z => by cases z⟩
theorem k_and (ha : CkOk g F lv a) (hb : CkOk g F lv b) : CkOk g F lv (.and_ a b) := by
  refine ok_vt rfl (fun {N sc X e} o q => ?_) (fun {N sc X e} o q => ?_)
  · split at q <;> try (simp at q; done)
    rename_i x y rest pos
    simp only [Bool.and_eq_true] at q
    obtain ⟨q1, q2⟩ := q
    refine PE.imp (pe_and (ha.v o q1) ?_) fun σ H Q z => i_and z
    split at q2
    · exact pe_one (hb.v o q2)
    · exact hb.v o q2
  · split at q <;> try (simp at q; done)
    rename_i x y rest pos
    simp only [Bool.and_eq_true] at q
    obtain ⟨q1, q2⟩ := q
    have hw : PW X (.BoolOp .And (x :: y :: rest) pos) (tT X.K F (.and_ a b)) := by
      refine PW.imp (pw_and (ha.t o q1).1 ?_) fun σ H Q z => i_andT z
      split at q2
      · exact pw_and1 (hb.t o q2).1
      · exact (hb.t o q2).2 _ _ _ rfl
    exact ⟨hw.pt, fun _ _ _ _ => hw⟩
theorem k_or (ha : CkOk g F lv a) (hb : CkOk g F lv b) : CkOk g F lv (.or_ a b) := by
  refine ok_vt rfl (fun {N sc X e} o q => ?_) (fun {N sc X e} o q => ?_)
  · split at q <;> try (simp at q; done)
    rename_i x y rest pos
    simp only [Bool.and_eq_true] at q
    obtain ⟨q1, q2⟩ := q
    refine PE.imp (pe_or (ha.v o q1) ?_) fun σ H Q z => i_or z
    split at q2
    · exact pe_one (hb.v o q2)
    · exact hb.v o q2
  · split at q <;> try (simp at q; done)
    rename_i x y rest pos
    simp only [Bool.and_eq_true] at q
    obtain ⟨q1, q2⟩ := q
    have hw : PW X (.BoolOp .Or (x :: y :: rest) pos) (tT X.K F (.or_ a b)) := by
      refine PW.imp (pw_or (ha.t o q1).1 ?_) fun σ H Q z => i_orT z
      split at q2
      · exact pw_or1 (hb.t o q2).1
      · exact (hb.t o q2).2 _ _ _ rfl
    exact ⟨hw.pt, fun _ _ _ _ => hw⟩
theorem k_not (ha : CkOk g F lv a) : CkOk g F lv (.not_ a) := by
  refine ok_vt rfl (fun {N sc X e} o q => ?_) (fun {N sc X e} o q => ?_)
  · split at q <;> try (simp at q; done)
    exact PE.imp (pe_not (ha.v o q)) fun σ H Q z => i_not z
  · split at q <;> try (simp at q; done)
    exact ⟨PT.imp (pt_not (ha.t o q).1) fun σ H Q z => i_notT z, fun _ _ _ z => by cases z⟩
theorem k_orl (ha : CkOk g F lv a) (hb : CkOk g F lv b) : CkOk g F lv (.orl a b) := ok_v rfl fun {N sc X e} o q => by
  split at q <;> try (simp at q; done)
  simp only [Bool.and_eq_true] at q
  exact PE.imp (pe_orT (ha.v o q.1) (pe_one (hb.v o q.2))) fun σ H Q z => i_orl z
theorem k_ite (hc : CkOk g F lv c) (ha : CkOk g F lv a) (hb : CkOk g F lv b) : CkOk g F lv (.ite c a b) := ok_v rfl fun {N sc X e} o q => by
  split at q <;> try (simp at q; done)
  simp only [Bool.and_eq_true] at q
  exact PE.imp (pe_ifExp (hc.t o q.1.1).1 (ha.v o q.1.2) (hb.v o q.2)) fun σ H Q z => i_ite z
theorem k_fn {f : Nat} (ha : CkOk g F lv a) : CkOk g F lv (.fn f a) := ok_v rfl fun {N sc X e} o q => by
  split at q <;> try (simp at q; done)
  rename_i x p es pos
  simp only [Bool.and_eq_true, decide_eq_true_eq] at q
  obtain ⟨⟨⟨⟨⟨q1, q2⟩, q3⟩, q4⟩, q7⟩, q5⟩ := q
  obtain ⟨⟨y, m⟩, e1, e2⟩ := Option.map_eq_some_iff.mp q1
  have e2 : y = x := e2
  subst e2
  obtain ⟨cal, hm⟩ := o.fns _ _ _ e1
  cases es with
  | nil =>
    have hn : a = .nl := by
      have q8 : isNl a = true := by simpa using q7
      cases a <;> first | rfl | simp [isNl] at q8
    subst hn
    obtain ⟨fa, fd, ps, ds, Fk, h1, h2, h3, h4⟩ := cal.ex
    exact PE.imp (pe_call0 (p := p) (pos := pos) Fk o.room (o.glo q2) h1 h2 h3 h4 C8.pass0 (nodbg_ok q3).1 (E := C8.E0)) fun σ H Q z => i_nl (i_fn hm z)
  | cons e es =>
    have q6 := q4
    simp only [List.all_cons, Bool.and_eq_true] at q6
    exact PE.imp (C8.pe_c cal o.room (Nat.le_refl _) (o.glo q2) (ha.l o q5) (nodbg_ok q3).1 (star_cons q6.1) (star_none q6.2)) fun σ H Q z => i_fn hm z
theorem k_fnt {f : Nat} (ha : CkOk g F lv a) : CkOk g F lv (.fnt f a) := ok_v rfl fun {N sc X e} o q => by
  split at q <;> try (simp at q; done)
  rename_i x p e pos
  simp only [Bool.and_eq_true, decide_eq_true_eq] at q
  obtain ⟨⟨⟨⟨q1, q2⟩, q3⟩, q4⟩, q5⟩ := q
  obtain ⟨cal, hm⟩ := o.fns _ _ _ q1
  exact PE.imp (C8.pe_c cal o.room (Nat.le_refl _) (o.glo q2) (pa_cons (ha.v o q5) pa_nil (star_cons q4)) (nodbg_ok q3).1 (star_cons q4) rfl) fun σ H Q z => i_fnt hm z
theorem k_bi {b : Bi} (ha : CkOk g F lv a) : CkOk g F lv (.bi b a) := ok_v rfl fun {N sc X e} o q => by
  split at q <;> try (simp at q; done)
  rename_i x p e es pos
  simp only [Bool.and_eq_true, decide_eq_true_eq] at q
  obtain ⟨⟨⟨rfl, q2⟩, q3⟩, q5⟩ := q
  exact PE.imp (pe_biX o q2 q3 (ha.l o q5)) fun σ H Q z => i_bi z
theorem k_isi {ks : List Ty} (ha : CkOk g F lv a) : CkOk g F lv (.isi ks a) := ok_v rfl fun {N sc X e} o q => by
  split at q <;> try (simp at q; done)
  rename_i x p e u pos
  simp only [Bool.and_eq_true, decide_eq_true_eq] at q
  obtain ⟨⟨⟨⟨rfl, q2⟩, q3⟩, q4⟩, q5⟩ := q
  have hm : X.mg "isinstance" = none := o.bn _ (by decide +kernel)
  split at q5 <;> try (simp at q5; done)
  · rename_i y c pc
    simp only [Bool.and_eq_true, decide_eq_true_eq] at q5
    obtain ⟨rfl, q6⟩ := q5
    exact PE.imp (pe_callB call_isi (o.glo q2) hm (by decide +kernel) (pa_cons (ha.v o q4) (pa_cons (pe_tyX o q6) pa_nil) (star_cons q3)) (by decide +kernel) (by decide +kernel) (star_cons q3) rfl) fun σ H Q z => i_isi1 z
  · rename_i y w c pc d pd k2 pt
    simp only [Bool.and_eq_true, decide_eq_true_eq] at q5
    obtain ⟨⟨⟨rfl, q6⟩, rfl⟩, q7⟩ := q5
    exact PE.imp (pe_callB call_isiT (o.glo q2) hm (by decide +kernel) (pa_cons (ha.v o q4) (pa_cons (pe_tup (pa_cons (pe_tyX o q6) (pa_cons (pe_tyX o q7) pa_nil))) pa_nil) (star_cons q3)) (by decide +kernel) (by decide +kernel) (star_cons q3) rfl) fun σ H Q z => i_isi2 z
theorem k_lrng (ha : CkOk g F lv a) : CkOk g F lv (.lrng a) := ok_v rfl fun {N sc X e} o q => by
  split at q <;> try (simp at q; done)
  simp only [Bool.and_eq_true, decide_eq_true_eq] at q
  obtain ⟨⟨⟨⟨⟨rfl, q2⟩, rfl⟩, q3⟩, q4⟩, q5⟩ := q
  exact PE.imp (pe_listRg o.calm (o.glo q2) (o.bn _ (by decide +kernel)) (prg_1 (o.glo q3) (o.bn _ (by decide +kernel)) (ha.v o q5) (star_cons q4)) rfl) fun σ H Q z => i_lrng z
theorem k_idx (ha : CkOk g F lv a) (hb : CkOk g F lv b) : CkOk g F lv (.idx a b) := ok_v rfl fun {N sc X e} o q => by
  split at q <;> try (simp at q; done)
  simp only [Bool.and_eq_true] at q
  exact PE.imp (pe_ix (ix_all (by have := o.room.un; omega)) (ha.v o q.1.2) (hb.v o q.2) (plainIx_ok q.1.1)) fun σ H Q z => i_idx z
theorem k_slc {l h : Tm} (ha : CkOk g F lv a) (hl : CkOk g F lv l) (hh : CkOk g F lv h) : CkOk g F lv (.slc a l h) := ok_v rfl fun {N sc X e} o q => by
  split at q <;> try (simp at q; done)
  simp only [Bool.and_eq_true] at q
  exact PE.imp (pe_slice sl_all (ha.v o q.1.1) (hl.o o q.1.2) (hh.o o q.2)) fun σ H Q z => i_slc z
theorem k_sm (ha : CkOk g F lv a) : CkOk g F lv (.sm a) := by
  refine ⟨fun o q => ?_, fun o q => ?_, fun {N sc X es} o q => ?_, fun {N sc X oe} o q => ?_, fun o q => ?_⟩
  · simp [chk, noV] at q
  · simp [chk, noV] at q
  · simp [chk, noL] at q
  · cases oe with
    | none => simp [chk] at q
    | some e => exact ⟨fun pins s σ H Q I z => (po_some (ha.v o q)).run pins s σ H Q I (i_smO z)⟩
  · simp [chk, noI] at q
theorem k_mix (ha : CkOk g F lv a) (hb : CkOk g F lv b) : CkOk g F lv (.mix a b) := ok_v rfl fun {N sc X e} o q => by
  split at q <;> try (simp at q; done)
  simp only [Bool.and_eq_true, decide_eq_true_eq] at q
  obtain ⟨⟨⟨⟨⟨rfl, q2⟩, q3⟩, q4⟩, q5⟩, q6⟩ := q
  exact PE.imp (pe_bm PySem.F.plainAttrs_list PySem.F.slot_list_index PySem.F.type_list_index (mt_indexD (units65 o)) (ha.v o q5) (pa_cons (hb.v o q6) pa_nil (star_cons q4)) (okBase_ok q2) (by rw [star_cons q4]; rfl) q3 (star_cons q4) rfl) fun σ H Q z => i_mix z
theorem k_rng (ha : CkOk g F lv a) : CkOk g F lv (.rng a) := ok_i rfl fun {N sc X tg e} o q => by
  split at q <;> try (simp at q; done)
  simp only [Bool.and_eq_true, decide_eq_true_eq] at q
  obtain ⟨⟨⟨rfl, q2⟩, q3⟩, q4⟩ := q
  exact pi_rngK (o.glo q2) (o.bn _ (by decide +kernel)) (star_cons q3) (ha.v o q4)
theorem k_enm (ha : CkOk g F lv a) : CkOk g F lv (.enm a) := ok_i rfl fun {N sc X tg e} o q => by
  simp only [Bool.and_eq_true] at q
  obtain ⟨q0, q⟩ := q
  split at q <;> try (simp at q; done)
  simp only [Bool.and_eq_true, decide_eq_true_eq] at q
  obtain ⟨⟨⟨rfl, q2⟩, q3⟩, q4⟩ := q
  cases tg <;> try (simp [istup] at q0; done)
  exact pi_enmK (o.glo q2) (o.bn _ (by decide +kernel)) (star_cons q3) (ha.v o q4)
theorem k_zp (ha : CkOk g F lv a) (hb : CkOk g F lv b) : CkOk g F lv (.zp a b) := ok_i rfl fun {N sc X tg e} o q => by
  simp only [Bool.and_eq_true] at q
  obtain ⟨q0, q⟩ := q
  split at q <;> try (simp at q; done)
  simp only [Bool.and_eq_true, decide_eq_true_eq] at q
  obtain ⟨⟨⟨⟨⟨rfl, q2⟩, q3⟩, q3'⟩, q4⟩, q5⟩ := q
  cases tg <;> try (simp [istup] at q0; done)
  exact pi_zpK (o.glo q2) (o.bn _ (by decide +kernel)) (star_cons q3) (star_cons q3') (ha.v o q4) (hb.v o q5)
theorem k_sq (ha : CkOk g F lv a) : CkOk g F lv (.sq a) := ok_i rfl fun {N sc X tg e} o q => pi_sqK (ha.v o q)
theorem k_ch (ha : CkOk g F lv a) : CkOk g F lv (.ch a) := ok_i rfl fun {N sc X tg e} o q => pi_chK (ha.v o q)
theorem k_brw (ha : CkOk g F lv a) : CkOk g F lv (.brw a) := ok_vt rfl (fun {N sc X e} o q => PE.imp (ha.v o q) fun σ H Q z => i_brw z)
  (fun {N sc X e} o q => ⟨PT.imp (ha.t o q).1 fun σ H Q z => i_brwT z, fun op es pos h => PW.imp ((ha.t o q).2 op es pos h) fun σ H Q z => i_brwT z⟩)
theorem k_lc {own : List Nat} {tg : Tg} {it cd elt : Tm} {k : Bool} (hi : CkOk g F lv it) (hc : CkOk g F lv cd) (he : CkOk g F lv elt) : CkOk g F lv (.lc own tg it cd elt k) := ok_v rfl fun {N sc X e} o q => by
  split at q <;> try (simp at q; done)
  rename_i el tt iter ifs n scope pos
  simp only [Bool.and_eq_true, decide_eq_true_eq] at q
  obtain ⟨⟨⟨⟨⟨⟨⟨rfl, q1⟩, q2⟩, q3⟩, q4⟩, q5⟩, q6⟩, q7⟩ := q
  have hown : ∀ j, j ∈ tgI tg → j ∈ own := by simpa [subL] using q3
  have hts : ∀ (s : Shared) (H : Hp) (C : Addr) (cl : List (Str × Addr)) (fp : List Addr), PTs (X.blk s H scope (compEnvC scope cl C X.env) fp) ifs (tT X.K F cd) := fun s H C cl fp => by
    split at q6
    · cases cd with
      | bl b =>
        cases b with
        | true => exact ⟨fun pins s σ H Q I z => pts_nil.run pins s σ H Q I (i_yes z)⟩
        | false => simp [isYes] at q6
      | _ => simp [isYes] at q6
    · exact pts_one (hc.t (o.blk s H C cl fp) q6).1
    · simp at q6
  have h := pe_lc (pos := pos) (te := tE X.K F elt) (g := tG X.K tg) o.calm (by rw [o.nm]; exact o.nd) (hi.i o q5) (o.blkOk q1) (fun s H C cl fp => pg_tg (o.blk s H C cl fp) q4) hts (fun s H C cl fp => he.v (o.blk s H C cl fp) q7) (noset_ok q2 _)
  rw [ownP_ix] at h
  exact PE.imp h fun σ H Q z => i_lc hown z
theorem k_lc2 {own : List Nat} {i j : Nat} {it jt elt : Tm} (hi : CkOk g F lv it) (hj : CkOk g F lv jt) (he : CkOk g F lv elt) : CkOk g F lv (.lc2 own i it j jt elt) := ok_v rfl fun {N sc X e} o q => by
  split at q <;> try (simp at q; done)
  rename_i el tt iter n tu jter m scope pos
  simp only [Bool.and_eq_true, decide_eq_true_eq] at q
  obtain ⟨⟨⟨⟨⟨⟨⟨⟨⟨⟨rfl, rfl⟩, q1⟩, q2⟩, q3⟩, q4⟩, q5⟩, q6⟩, q7⟩, q8⟩, q9⟩ := q
  have hown : i ∈ own ∧ j ∈ own := by simpa [subL] using q4
  have h := pe_lc2 (vs1 := [j]) (pos := pos) (te := tE X.K F elt) (wi1 := tI X.K F jt) o.calm (by rw [o.nm]; exact o.nd) (hi.i o q7) (o.blkOk q1) (fun z hz => by rw [ownP_ix, List.mem_singleton.mp hz]; exact hown.2)
    (fun s H C cl fp => pg_tg (o.blk s H C cl fp) q5) (fun s H C cl fp => pts_nil) (fun s H C cl fp => hj.i (o.blk s H C cl fp) q8) (fun s H C cl fp => pg_tg (o.blk s H C cl fp) q6) (fun s H C cl fp => pts_nil)
    (fun s H C cl fp => he.v (o.blk s H C cl fp) q9) (noset_ok q2 _) (fun env x => noset_ok q3 env x)
  rw [ownP_ix] at h
  exact PE.imp h fun σ H Q z => i_lc2 hown.1 hown.2 z
theorem k_dc {own : List Nat} {tg : Tg} {it kx vx : Tm} (hi : CkOk g F lv it) (hk : CkOk g F lv kx) (hv : CkOk g F lv vx) : CkOk g F lv (.dc own tg it kx vx) := ok_v rfl fun {N sc X e} o q => by
  split at q <;> try (simp at q; done)
  rename_i k v tt iter n scope pos
  simp only [Bool.and_eq_true, decide_eq_true_eq] at q
  obtain ⟨⟨⟨⟨⟨⟨⟨rfl, q1⟩, q2⟩, q3⟩, q4⟩, q5⟩, q6⟩, q7⟩ := q
  have hown : ∀ j, j ∈ tgI tg → j ∈ own := by simpa [subL] using q3
  have h := pe_dc (pos := pos) (tk := tE X.K F kx) (tv := tE X.K F vx) (g := tG X.K tg) o.calm (by rw [o.nm]; exact o.nd) (hi.i o q5) (o.blkOk q1) (fun s H C cl fp => pg_tg (o.blk s H C cl fp) q4) (fun s H C cl fp => pts_nil)
    (fun s H C cl fp => hk.v (o.blk s H C cl fp) q6) (fun s H C cl fp => hv.v (o.blk s H C cl fp) q7) (noset_ok q2 _)
  rw [ownP_ix] at h
  exact PE.imp h fun σ H Q z => i_dc hown z
theorem k_lset (ha : CkOk g F lv a) : CkOk g F lv (.lset a) := ok_v rfl fun {N sc X e} o q => by
  split at q <;> try (simp at q; done)
  simp only [Bool.and_eq_true, decide_eq_true_eq] at q
  obtain ⟨⟨⟨⟨⟨rfl, q2⟩, rfl⟩, q3⟩, q4⟩, q5⟩ := q
  exact PE.imp (pe_sets o.calm (o.glo q2) (o.bn _ (by decide +kernel)) (o.glo q3) (o.bn _ (by decide +kernel)) (ha.v o q5) (star_cons q4)) fun σ H Q z => i_lset z
theorem k_dmg {i j k : Nat} : CkOk g F lv (.dmg i j k) := ok_v rfl fun {N sc X e} o q => by
  split at q <;> try (simp at q; done)
  simp only [Bool.and_eq_true, decide_eq_true_eq] at q
  obtain ⟨⟨⟨⟨⟨⟨⟨⟨⟨⟨⟨⟨rfl, q1⟩, rfl⟩, q2⟩, q3⟩, q4⟩, q5⟩, q6⟩, q7⟩, q8⟩, q9⟩, q10⟩, q11⟩ := q
  obtain ⟨a1, a2⟩ := nodbg_ok q5
  obtain ⟨b1, b2⟩ := nodbg_ok q8
  obtain ⟨c1, c2⟩ := nodbg_ok q11
  exact PE.imp (pe_dmg o.calm (pe_var (by rw [o.nm]; exact q3) (o.vis q4) a1 a2) (pe_var (by rw [o.nm]; exact q6) (o.vis q7) b1 b2) (pe_var (by rw [o.nm]; exact q9) (o.vis q10) c1 c2) (o.glo q1) (o.bn _ (by decide +kernel)) (o.glo q2) (o.bn _ (by decide +kernel))) fun σ H Q z => i_dmg z
theorem chk_ok : ∀ t : Tm, CkOk g F lv t := by
  intro t
  induction t with
  | var => exact k_var
  | int => exact k_int
  | str => exact k_str
  | bl => exact k_bl
  | non => exact k_non
  | glb => exact k_glb
  | gls => exact k_gls
  | nl => exact k_nl
  | cn _ _ h1 h2 => exact k_cn h1 h2
  | cs _ _ h1 h2 => exact k_cs h1 h2
  | tup _ h => exact k_tup h
  | lst _ h => exact k_lst h
  | add a b h1 h2 => exact ok_op (op := .Add) rfl h1 h2 (fun ρ ts => by simp only [ev]) (fun K => o_add) (fun X => r_add)
  | sub a b h1 h2 => exact ok_op (op := .Sub) rfl h1 h2 (fun ρ ts => by simp only [ev]) (fun K => o_sub) (fun X => op_sub)
  | mul a b h1 h2 => exact ok_op (op := .Mult) rfl h1 h2 (fun ρ ts => by simp only [ev]) (fun K => o_mul) (fun X => r_mul)
  | mod a b h1 h2 => exact ok_op (op := .Mod) rfl h1 h2 (fun ρ ts => by simp only [ev]) (fun K => o_mod) (fun X => op_mod)
  | fdiv a b h1 h2 => exact ok_op (op := .FloorDiv) rfl h1 h2 (fun ρ ts => by simp only [ev]) (fun K => o_fdiv) (fun X => op_fdiv)
  | pow a b h1 h2 => exact ok_op (op := .Pow) rfl h1 h2 (fun ρ ts => by simp only [ev]) (fun K => o_pow) (fun X => op_pow)
  | neg _ h => exact k_neg h
  | cmp _ _ _ h1 h2 => exact k_cmp h1 h2
  | chn _ _ _ _ _ h1 h2 h3 => exact k_chn h1 h2 h3
  | and_ _ _ h1 h2 => exact k_and h1 h2
  | or_ _ _ h1 h2 => exact k_or h1 h2
  | not_ _ h => exact k_not h
  | orl _ _ h1 h2 => exact k_orl h1 h2
  | ite _ _ _ h1 h2 h3 => exact k_ite h1 h2 h3
  | fn _ _ h => exact k_fn h
  | fnt _ _ h => exact k_fnt h
  | bi _ _ h => exact k_bi h
  | isi _ _ h => exact k_isi h
  | lset _ h => exact k_lset h
  | lrng _ h => exact k_lrng h
  | idx _ _ h1 h2 => exact k_idx h1 h2
  | slc _ _ _ h1 h2 h3 => exact k_slc h1 h2 h3
  | mix _ _ h1 h2 => exact k_mix h1 h2
  | lc _ _ _ _ _ _ h1 h2 h3 => exact k_lc h1 h2 h3
  | lc2 _ _ _ _ _ _ h1 h2 h3 => exact k_lc2 h1 h2 h3
  | dc _ _ _ _ _ h1 h2 h3 => exact k_dc h1 h2 h3
  | dmg => exact k_dmg
  | rng _ h => exact k_rng h
  | enm _ h => exact k_enm h
  | zp _ _ h1 h2 => exact k_zp h1 h2
  | sq _ h => exact k_sq h
  | ch _ h => exact k_ch h
  | sm _ h => exact k_sm h
  | brw _ h => exact k_brw h
end
end Lt

namespace Lt
set_option maxRecDepth 4000
open PySem PySem.Spec PyProof.Rows L2
def isLoc (sc : Scope) (x : Str) : Bool := match sc.names.lookup x with
  | some .local => true
  | _ => false
def isCell (sc : Scope) (x : Str) : Bool := match sc.names.lookup x with
  | some .cell => true
  | _ => false
theorem sw2_none {x y : Str} {px py pt p2 : Pos} {kt k2 : Nat} {u w : Expr} {env : PySem.Env} (h : (env.kindOf x == some .local) = false ∨ (env.kindOf y == some .local) = false) :
    swappedStores [.Tuple [.Name x px, .Name y py] kt pt] (.Tuple [u, w] k2 p2) env = pure none := by
  have hl : (List.filterMap (fun (e : Expr) => match e with
      | .Name id pos => if (env.kindOf id == some NameKind.local && pos.line == (Option.map (fun x => x.pos.line) [Expr.Name x px, Expr.Name y py].head?).getD 0) = true then some id else none
      | _ => none) [Expr.Name x px, Expr.Name y py]).length ≠ 2 := by
    rcases h with h | h
    · simp only [List.filterMap_cons, List.filterMap_nil, h, Bool.false_and, Bool.false_eq_true, if_false]
      split <;> simp
    · simp only [List.filterMap_cons, List.filterMap_nil, h, Bool.false_and, Bool.false_eq_true, if_false]
      split <;> simp
  unfold swappedStores
  dsimp only
  split
  · rfl
  split
  · rfl
  rw [if_pos]
  · rw [Bool.or_eq_true]
    exact .inl (bne_iff_ne.mpr hl)
theorem sw2_fold {x y : Str} {px py pt p2 : Pos} {kt k2 : Nat} {u w : Expr} {env : PySem.Env} (h : [u, w].all (foldedForSure 8) = true) :
    swappedStores [.Tuple [.Name x px, .Name y py] kt pt] (.Tuple [u, w] k2 p2) env = pure none := by
  unfold swappedStores
  dsimp only
  split
  · rfl
  split
  · rfl
  split
  · rfl
  first
    | rfl
    | rw [if_pos h]
theorem sw2_some {x y : Str} {px py pt p2 : Pos} {kt k2 : Nat} {u w : Expr} {env : PySem.Env} (hk : env.scope.kind = .function) (hx : env.kindOf x = some .local) (hy : env.kindOf y = some .local) (hl : (py.line == px.line) = true) (hxy : (y == x) = false)
    (h1 : ([u, w].any fun x => match x with | .Starred _ _ => true | _ => false) = false) (h2 : [u, w].all (foldedForSure 8) = false) (h3 : [u, w].all (constantsAlone 8) = false) :
    swappedStores [.Tuple [.Name x px, .Name y py] kt pt] (.Tuple [u, w] k2 p2) env = pure (some [x, y]) := by
  have hb : env.blockKind = .function := by unfold Env.blockKind; rw [hk]; rfl
  have hn : (List.filterMap (fun (e : Expr) => match e with
      | .Name id pos => if (env.kindOf id == some NameKind.local && pos.line == (Option.map (fun x => x.pos.line) [Expr.Name x px, Expr.Name y py].head?).getD 0) = true then some id else none
      | _ => none) [Expr.Name x px, Expr.Name y py]) = [x, y] := by
    have e1 : ((Option.map (fun (x : Expr) => x.pos.line) [Expr.Name x px, Expr.Name y py].head?).getD 0) = px.line := rfl
    simp only [e1]
    simp [hx, hy, eq_of_beq hl]
  unfold swappedStores
  dsimp only
  rw [if_neg (by rw [hb]; simp), if_neg (fun z => by have q := h1.symm.trans z; cases q)]
  simp only [h2, h3, Bool.false_eq_true, if_false]
  refine (congrArg (fun n : List Str => (if (n.length != 2 || n.eraseDups.length != n.length) = true then pure none else pure (some n) : Sem (Option (List Str)))) hn).trans ?_
  show (if (([x, y] : List Str).length != 2 || ([x, y] : List Str).eraseDups.length != ([x, y] : List Str).length) = true then pure none else pure (some [x, y]) : Sem (Option (List Str))) = _
  rw [if_neg (by simp [List.eraseDups_cons, hxy])]
theorem sw3_some {x y z : Str} {px py pz pt p2 : Pos} {kt k2 : Nat} {u w t : Expr} {env : PySem.Env} (hk : env.scope.kind = .function) (hx : env.kindOf x = some .local) (hy : env.kindOf y = some .local) (hz : env.kindOf z = some .local) (hl : (py.line == px.line) = true) (hl2 : (pz.line == px.line) = true) (hxy : (y == x) = false) (hxz : (z == x) = false) (hyz : (z == y) = false)
    (h1 : ([u, w, t].any fun x => match x with | .Starred _ _ => true | _ => false) = false) (h2 : [u, w, t].all (foldedForSure 8) = false) (h3 : [u, w, t].all (constantsAlone 8) = false) :
    swappedStores [.Tuple [.Name x px, .Name y py, .Name z pz] kt pt] (.Tuple [u, w, t] k2 p2) env = pure (some [x, y, z]) := by
  have hb : env.blockKind = .function := by unfold Env.blockKind; rw [hk]; rfl
  have hn : (List.filterMap (fun (e : Expr) => match e with
      | .Name id pos => if (env.kindOf id == some NameKind.local && pos.line == (Option.map (fun x => x.pos.line) [Expr.Name x px, Expr.Name y py, Expr.Name z pz].head?).getD 0) = true then some id else none
      | _ => none) [Expr.Name x px, Expr.Name y py, Expr.Name z pz]) = [x, y, z] := by
    have e1 : ((Option.map (fun (x : Expr) => x.pos.line) [Expr.Name x px, Expr.Name y py, Expr.Name z pz].head?).getD 0) = px.line := rfl
    simp only [e1]
    simp [hx, hy, hz, eq_of_beq hl, eq_of_beq hl2]
  unfold swappedStores
  dsimp only
  rw [if_neg (by rw [hb]; simp), if_neg (fun z => by have q := h1.symm.trans z; cases q)]
  simp only [h2, h3, Bool.false_eq_true, if_false]
  refine (congrArg (fun n : List Str => (if (n.length != 3 || n.eraseDups.length != n.length) = true then pure none else pure (some n) : Sem (Option (List Str)))) hn).trans ?_
  show (if (([x, y, z] : List Str).length != 3 || ([x, y, z] : List Str).eraseDups.length != ([x, y, z] : List Str).length) = true then pure none else pure (some [x, y, z]) : Sem (Option (List Str))) = _
  rw [if_neg (by simp [List.eraseDups_cons, hxy, hxz, hyz])]
theorem sw_nest {x : Str} {px pt p2 pn : Pos} {kt k2 kn : Nat} {ns : List Expr} {u w : Expr} {env : PySem.Env} :
    swappedStores [.Tuple [.Name x px, .Tuple ns kn pn] kt pt] (.Tuple [u, w] k2 p2) env = pure none := by
  have hl : (List.filterMap (fun (e : Expr) => match e with
      | .Name id pos => if (env.kindOf id == some NameKind.local && pos.line == (Option.map (fun x => x.pos.line) [Expr.Name x px, Expr.Tuple ns kn pn].head?).getD 0) = true then some id else none
      | _ => none) [Expr.Name x px, Expr.Tuple ns kn pn]).length ≠ 2 := by
    simp only [List.filterMap_cons, List.filterMap_nil]
    split <;> simp
  unfold swappedStores
  dsimp only
  split
  · rfl
  split
  · rfl
  rw [if_pos]
  · rw [Bool.or_eq_true]
    exact .inl (bne_iff_ne.mpr hl)

/-! ### the look at statements -/
structure CkS where
  one : List Str → Scope → Stmt → Bool
  many : List Str → Scope → List Stmt → Bool
def isFrz : Stm → Bool
  | .frz _ => true
  | _ => false
def isLcT : Tm → Bool
  | .lc _ _ _ _ _ _ => true
  | .lc2 _ _ _ _ _ _ => true
  | .brw a => isLcT a
  | _ => false
/-- the store goes within the comprehension -/
def swT (sc : Scope) (y : Str) (py : Pos) : Expr → Bool
  | .ListComp _ _ s p => isLoc sc y && (py.line == p.line) && !(s.names.any fun (n, k) => n == y && (k == .local || k == .cell))
  | .SetComp _ _ _ _ => true
  | .DictComp _ _ _ s p => isLoc sc y && (py.line == p.line) && !(s.names.any fun (n, k) => n == y && (k == .local || k == .cell))
  | _ => false
def isCall : Expr → Bool
  | .Call _ _ _ _ => true
  | _ => false
def okUnp : Expr → Bool
  | .Name _ _ => true
  | .Call _ _ _ _ => true
  | .Subscript _ _ _ => true
  | _ => false
def nmOk (N : List Str) (sc : Scope) (i : Nat) (x : Str) : Bool := decide (N[i]? = some x) && loc sc x
def vrOk (N : List Str) (sc : Scope) (i : Nat) (x : Str) : Bool := decide (N[i]? = some x) && vis sc x && nodbg x
def manyS : List Str → Scope → List Stmt → Bool := fun _ _ _ => false
def chkS (g : G) : Stm → CkS
  | .nil => ⟨fun _ _ _ => false, fun _ _ sts => sts.isEmpty⟩
  | .seq a b => ⟨fun _ _ _ => false, fun N sc sts => if isFrz a then (chkS g b).many N sc sts else match sts with
    | st :: r => (chkS g a).one N sc st && (chkS g b).many N sc r
    | [] => false⟩
  | .asg i _ t => ⟨fun N sc st => match st with
    | .Assign [.Name y py] e pos => nmOk N sc i y && (chk g t).v N sc e && (!swT sc y py e || isLcT t)
    | _ => false, manyS⟩
  | .mov i j => ⟨fun N sc st => match st with
    | .Assign [.Name y _] (.Name x _) _ => nmOk N sc i y && vrOk N sc j x
    | _ => false, manyS⟩
  | .unp is t => ⟨fun N sc st => match st with
    | .Assign [tg] e _ => ckTg N sc (.many is) tg && okUnp e && (chk g t).v N sc e
    | _ => false, manyS⟩
  | .par i j _ _ a b => ⟨fun N sc st => match st with
    | .Assign [.Tuple [.Name x px, .Name y py] _ _] (.Tuple [u, w] _ _) _ => nmOk N sc i x && nmOk N sc j y && decide (i ≠ j) && nostar u && nostar w && (chk g a).v N sc u && (chk g b).v N sc w &&
      (isCell sc x || isCell sc y || [u, w].all (foldedForSure 8) || (isLoc sc x && isLoc sc y && (py.line == px.line) && !(y == x) && !([u, w].all (foldedForSure 8)) && !([u, w].all (constantsAlone 8))))
    | _ => false, manyS⟩
  | .tri i j k _ _ _ a b c => ⟨fun N sc st => match st with
    | .Assign [.Tuple [.Name x px, .Name y py, .Name z pz] _ _] (.Tuple [u, w, t] _ _) _ => nmOk N sc i x && nmOk N sc j y && nmOk N sc k z && decide (i ≠ j) && decide (i ≠ k) && decide (j ≠ k) && nostar u && nostar w && nostar t && (chk g a).v N sc u && (chk g b).v N sc w && (chk g c).v N sc t &&
      (isLoc sc x && isLoc sc y && isLoc sc z && (py.line == px.line) && (pz.line == px.line) && !(y == x) && !(z == x) && !(z == y) && !([u, w, t].all (foldedForSure 8)) && !([u, w, t].all (constantsAlone 8)))
    | _ => false, manyS⟩
  | .par3 i j k a b => ⟨fun N sc st => match st with
    | .Assign [.Tuple [.Name x _, .Tuple [.Name y _, .Name z _] _ _] _ _] (.Tuple [u, w] _ _) _ => nmOk N sc i x && nmOk N sc j y && nmOk N sc k z && nostar u && nostar w && (chk g a).v N sc u && (chk g b).v N sc w
    | _ => false, manyS⟩
  | .frz _ => ⟨fun _ _ _ => false, manyS⟩
  | .app i t => ⟨fun N sc st => match st with
    | .Expr (.Call (.Attribute (.Name x _) m apos) [e] [] cpos) _ => decide (m = "append") && vrOk N sc i x && (apos.endLine == cpos.line) && nostar e && (chk g t).v N sc e
    | _ => false, manyS⟩
  | .app2 i d t => ⟨fun N sc st => match st with
    | .Expr (.Call (.Attribute (.Subscript (.Name x _) u _) m apos) [e] [] cpos) _ => decide (m = "append") && vrOk N sc i x && plainIx u && (chk g d).v N sc u && (apos.endLine == cpos.line) && nostar e && (chk g t).v N sc e
    | _ => false, manyS⟩
  | .apop i j t => ⟨fun N sc st => match st with
    | .Expr (.Call (.Attribute (.Name x _) m apos) [.Call (.Attribute (.Name y _) n bpos) [e] [] dpos] [] cpos) _ => decide (m = "append") && decide (n = "pop") && vrOk N sc i x && vrOk N sc j y && (apos.endLine == cpos.line) && (bpos.endLine == dpos.line) && nostar e && (chk g t).v N sc e
    | _ => false, manyS⟩
  | .sto i d t => ⟨fun N sc st => match st with
    | .Assign [.Subscript (.Name x _) u _] e _ => vrOk N sc i x && plainIx u && (chk g d).v N sc u && (chk g t).v N sc e
    | _ => false, manyS⟩
  | .ret t => ⟨fun N sc st => match st with
    | .Return (some e) _ => (chk g t).v N sc e
    | _ => false, manyS⟩
  | .retv i => ⟨fun N sc st => match st with
    | .Return (some (.Name x _)) _ => vrOk N sc i x
    | _ => false, manyS⟩
  | .rai => ⟨fun _ _ _ => true, manyS⟩
  | .exp t => ⟨fun N sc st => match st with
    | .Expr e _ => isCall e && (chk g t).v N sc e
    | _ => false, manyS⟩
  | .ife c a b => ⟨fun N sc st => match st with
    | .If e x y _ => (chk g c).t N sc e && (chkS g a).many N sc x && (chkS g b).many N sc y
    | _ => false, manyS⟩
  | .for_ tg it body => ⟨fun N sc st => match st with
    | .For t e x [] _ => ckTg N sc tg t && noset e && (chk g it).i N sc t e && (chkS g body).many N sc x
    | _ => false, manyS⟩
end Lt

namespace Lt
open PySem PySem.Spec PyProof.Rows L2
structure OkS (g : G) (F : FT) (lv : Nat) (N : List Str) (sc : Scope) (X : Cx) : Prop where
  o : Okx g F lv N sc X
  kind : X.env.scope.kind = .function
  pas : PassesOwn (model X.prog X.w) X.A X.env X.xe
structure CkSOk (g : G) (F : FT) (lv : Nat) (t : Stm) : Prop where
  one : ∀ {N : List Str} {sc : Scope} {X : Cx} {st : Stmt}, OkS g F lv N sc X → (chkS g t).one N sc st = true → PS X st (tS X.K F t)
  many : ∀ {N : List Str} {sc : Scope} {X : Cx} {sts : List Stmt}, OkS g F lv N sc X → (chkS g t).many N sc sts = true → PSs X sts (tS X.K F t)
section
variable {g : G} {F : FT} {lv : Nat} {N : List Str} {sc : Scope} {X : Cx} {x y : Str} {a b c t : Tm} {i j k : Nat} {s1 s2 : Stm}
theorem isLoc_ok (o : Okx g F lv N sc X) (h : isLoc sc x = true) : X.env.scope.names.lookup x = some .local := by
  unfold isLoc at h
  split at h
  · rename_i e
    obtain ⟨k, e1, e2⟩ := o.scr _ _ e
    rcases e2 with rfl | ⟨e2, _⟩
    · exact e1
    · cases e2
  · simp at h
theorem isCell_ok (o : Okx g F lv N sc X) (h : isCell sc x = true) : (X.env.kindOf x == some .local) = false := by
  unfold isCell at h
  split at h
  · rename_i e
    obtain ⟨k, e1, e2⟩ := o.scr _ _ e
    have e3 : X.env.kindOf x = some k := e1
    rw [e3]
    rcases e2 with rfl | ⟨e2, _⟩
    · rfl
    · cases e2
  · simp at h
theorem nmOk_ok (o : Okx g F lv N sc X) (h : nmOk N sc i x = true) : X.N.Nodup ∧ X.N[i]? = some x ∧ Loc X.env.scope x ∧ (X.fn x = true ∨ X.env.scope.names.lookup x = some .local) := by
  unfold nmOk at h
  simp only [Bool.and_eq_true, decide_eq_true_eq] at h
  obtain ⟨h1, h2⟩ := o.loc h.2
  exact ⟨by rw [o.nm]; exact o.nd, by rw [o.nm]; exact h.1, h1, h2⟩
theorem vr_ok {p : Pos} (o : Okx g F lv N sc X) (h : vrOk N sc i x = true) : PE X (.Name x p) (tVar i) := by
  unfold vrOk at h
  simp only [Bool.and_eq_true, decide_eq_true_eq] at h
  obtain ⟨d1, d2⟩ := nodbg_ok h.2
  exact pe_var (by rw [o.nm]; exact h.1.1) (o.vis h.1.2) d1 d2
theorem blockK (w : OkS g F lv N sc X) : X.env.blockKind = .function := by unfold Env.blockKind; rw [w.kind]; rfl
/-- the store of a value in a name, as usual -/
theorem sw_false (o : OkS g F lv N sc X) {e : Expr} {y : Str} {py : Pos} {l : Nat} (hl : loc sc y = true) (h : swT sc y py e = false) : swapsWith e (some (.Name y py)) l X.env = pure false := by
  have hk : isLoc sc y = false → (X.env.kindOf y == some .local) = false := fun z => by
    unfold Lt.loc at hl
    unfold isLoc at z
    split at hl
    · rename_i e1; rw [e1] at z; simp at z
    · rename_i e1
      obtain ⟨k, e2, e3⟩ := o.o.scr _ _ e1
      have e4 : X.env.kindOf y = some k := e2
      rw [e4]
      rcases e3 with rfl | ⟨e3, _⟩
      · rfl
      · cases e3
    · simp at hl
  have main : ∀ (s : Scope) (p : Pos), (isLoc sc y && (py.line == p.line) && !(s.names.any fun (n, k) => n == y && (k == .local || k == .cell))) = false →
      (X.env.blockKind == .function && X.env.kindOf y == some .local && py.line == p.line && !(s.names.any fun (n, k) => n == y && (k == .local || k == .cell))) = false := fun s p z => by
    cases q : isLoc sc y with
    | false => rw [hk q]; simp
    | true =>
      rw [q, Bool.true_and] at z
      rw [Bool.and_assoc, z, Bool.and_false]
  cases e <;> first | rfl | skip
  case ListComp el gs s p =>
    unfold swapsWith
    have := main s p h
    show (pure (X.env.blockKind == .function && X.env.kindOf y == some .local && py.line == p.line && !(s.names.any fun (n, k) => n == y && (k == .local || k == .cell))) : Sem Bool) = pure false
    rw [this]
  case SetComp el gs s p => simp [swT] at h
  case DictComp el gs s p q =>
    unfold swapsWith
    have := main p q h
    show (pure (X.env.blockKind == .function && X.env.kindOf y == some .local && py.line == q.line && !(p.names.any fun (n, k) => n == y && (k == .local || k == .cell))) : Sem Bool) = pure false
    rw [this]
theorem lc_dest {own : List Nat} {tg : Tg} {it cd elt : Tm} {k : Bool} {e : Expr} (q : (chk g (.lc own tg it cd elt k)).v N sc e = true) : ∃ el tt iter ifs scope pos', e = .ListComp el [⟨tt, iter, ifs, 0⟩] scope pos' ∧ blkC N sc scope (ownP N own) = true ∧ noset iter = true ∧ (∀ j, j ∈ tgI tg → j ∈ own) ∧ ckTg N scope tg tt = true ∧ (chk g it).i N sc tt iter = true ∧ ((ifs = [] ∧ cd = .bl true) ∨ ∃ c, ifs = [c] ∧ (chk g cd).t N scope c = true) ∧ (chk g elt).v N scope el = true := by
  unfold chk at q
  simp only [ckV] at q
  split at q <;> try (simp at q; done)
  rename_i el tt iter ifs n scope pos'
  simp only [Bool.and_eq_true, decide_eq_true_eq] at q
  obtain ⟨⟨⟨⟨⟨⟨⟨rfl, q1⟩, q2⟩, q3⟩, q4⟩, q5⟩, q6⟩, q7⟩ := q
  refine ⟨el, tt, iter, ifs, scope, pos', rfl, q1, q2, by simpa [subL] using q3, q4, q5, ?_, q7⟩
  split at q6
  · cases cd with
    | bl b =>
      cases b with
      | true => exact .inl ⟨rfl, rfl⟩
      | false => simp [isYes] at q6
    | _ => simp [isYes] at q6
  · exact .inr ⟨_, rfl, q6⟩
  · simp at q6
theorem lc2_dest {own : List Nat} {i' j' : Nat} {it jt elt : Tm} {e : Expr} (q : (chk g (.lc2 own i' it j' jt elt)).v N sc e = true) : ∃ el tt iter tu jter scope pos', e = .ListComp el [⟨tt, iter, [], 0⟩, ⟨tu, jter, [], 0⟩] scope pos' ∧ blkC N sc scope (ownP N own) = true ∧ noset iter = true ∧ noset jter = true ∧ (i' ∈ own ∧ j' ∈ own) ∧ ckTg N scope (.one i') tt = true ∧ ckTg N scope (.one j') tu = true ∧ (chk g it).i N sc tt iter = true ∧ (chk g jt).i N scope tu jter = true ∧ (chk g elt).v N scope el = true := by
  unfold chk at q
  simp only [ckV] at q
  split at q <;> try (simp at q; done)
  rename_i el tt iter n tu jter m scope pos'
  simp only [Bool.and_eq_true, decide_eq_true_eq] at q
  obtain ⟨⟨⟨⟨⟨⟨⟨⟨⟨⟨rfl, rfl⟩, q1⟩, q2⟩, q3⟩, q4⟩, q5⟩, q6⟩, q7⟩, q8⟩, q9⟩ := q
  exact ⟨el, tt, iter, tu, jter, scope, pos', rfl, q1, q2, q3, by simpa [subL] using q4, q5, q6, q7, q8, q9⟩
theorem ps_lcX (hk : ∀ t, CkOk g F lv t) {e : Expr} {py pos : Pos} (w : OkS g F lv N sc X) (hn : nmOk N sc i y = true) (hs : swT sc y py e = true) : ∀ t : Tm, isLcT t = true → (chk g t).v N sc e = true → PS X (.Assign [.Name y py] e pos) (tAsg (tE X.K F t) (gName i)) := by
  obtain ⟨n1, n2, n3, n4⟩ := nmOk_ok w.o hn
  have o := w.o
  have hy : ∀ {el gs s p}, e = .ListComp el gs s p → X.env.scope.names.lookup y = some .local ∧ ∀ l, swapsWith (.ListComp el gs s p) (some (.Name y py)) l X.env = pure true := fun {el gs s p} he => by
    subst he
    simp only [swT, Bool.and_eq_true, Bool.not_eq_true'] at hs
    exact ⟨isLoc_ok o hs.1.1, fun l => sw_true w.kind (isLoc_ok o hs.1.1) hs.1.2 hs.2⟩
  intro t
  induction t with
  | brw a ih => exact fun h1 h2 => PS.imp (ih h1 h2) fun D σ H z => i_brw z
  | lc own tg it cd elt k _ _ _ =>
    intro _ q
    obtain ⟨el, tt, iter, ifs, scope, pos', rfl, q1, q2, hown, q4, q5, q6, q7⟩ := lc_dest q
    have hts : ∀ (s : Shared) (H : Hp) (C : Addr) (cl : List (Str × Addr)) (fp : List Addr), PTs (X.blk s H scope (compEnvC scope cl C X.env) fp) ifs (tT X.K F cd) := fun s H C cl fp => by
      rcases q6 with ⟨rfl, rfl⟩ | ⟨c, rfl, q6⟩
      · exact ⟨fun pins s σ H Q I z => pts_nil.run pins s σ H Q I (i_yes z)⟩
      · exact pts_one ((hk cd).t (o.blk s H C cl fp) q6).1
    obtain ⟨hyl, hsw⟩ := hy rfl
    have h := ps_setLc (spos := pos) (pos := pos') (te := tE X.K F elt) (g := tG X.K tg) o.calm n1 n2 hyl (hsw _) ((hk it).i o q5) (o.blkOk q1) (fun s H C cl fp => pg_tg (o.blk s H C cl fp) q4) hts (fun s H C cl fp => (hk elt).v (o.blk s H C cl fp) q7) (noset_ok q2 _)
    rw [ownP_ix] at h
    exact PS.imp h fun D σ H ⟨ρ, W, T, ts, r, ts', z⟩ => i_lc hown ⟨ρ, W, T, ts, r, ts', z⟩
  | lc2 own i' it j' jt elt _ _ _ =>
    intro _ q
    obtain ⟨el, tt, iter, tu, jter, scope, pos', rfl, q1, q2, q3, hown, q5, q6, q7, q8, q9⟩ := lc2_dest q
    obtain ⟨hyl, hsw⟩ := hy rfl
    have h := ps_setLc2 (spos := pos) (vs1 := [j']) (pos := pos') (te := tE X.K F elt) (wi1 := tI X.K F jt) o.calm n1 n2 hyl (hsw _) ((hk it).i o q7) (o.blkOk q1) (fun z hz => by rw [ownP_ix, List.mem_singleton.mp hz]; exact hown.2)
      (fun s H C cl fp => pg_tg (o.blk s H C cl fp) q5) (fun s H C cl fp => pts_nil) (fun s H C cl fp => (hk jt).i (o.blk s H C cl fp) q8) (fun s H C cl fp => pg_tg (o.blk s H C cl fp) q6) (fun s H C cl fp => pts_nil)
      (fun s H C cl fp => (hk elt).v (o.blk s H C cl fp) q9) (noset_ok q2 _) (fun env x => noset_ok q3 env x)
    rw [ownP_ix] at h
    exact PS.imp h fun D σ H ⟨ρ, W, T, ts, r, ts', z⟩ => i_lc2 hown.1 hown.2 ⟨ρ, W, T, ts, r, ts', z⟩
  | _ => exact fun h _ => by simp [isLcT] at h
theorem ok_one {f : List Str → Scope → Stmt → Bool} (h : chkS g s1 = ⟨f, manyS⟩) (ho : ∀ {N : List Str} {sc : Scope} {X : Cx} {st : Stmt}, OkS g F lv N sc X → f N sc st = true → PS X st (tS X.K F s1)) : CkSOk g F lv s1 :=
  ⟨fun w q => by rw [h] at q; exact ho w q, fun w q => by rw [h] at q; simp [manyS] at q⟩
theorem z_nil : CkSOk g F lv .nil := ⟨fun w q => by simp [chkS] at q, fun {N sc X sts} w q => by
  cases sts with
  | nil => exact PSs.imp pss_nil fun D σ H z => i_nil z
  | cons => simp [chkS] at q⟩
theorem z_seq (h1 : CkSOk g F lv s1) (h2 : CkSOk g F lv s2) : CkSOk g F lv (.seq s1 s2) := ⟨fun w q => by simp [chkS] at q, fun {N sc X sts} w q => by
  simp only [chkS] at q
  split at q
  · rename_i hf
    cases s1 with
    | frz i => exact PSs.imp (h2.many w q) fun D σ H z => i_frz (i_seq z)
    | _ => simp [isFrz] at hf
  · cases sts with
    | nil => simp at q
    | cons st sts =>
      simp only [Bool.and_eq_true] at q
      exact PSs.imp (pss_cons (h1.one w q.1) (h2.many w q.2)) fun D σ H z => i_seq z⟩
theorem z_asg {own : Bool} (hk : ∀ t, CkOk g F lv t) : CkSOk g F lv (.asg i own t) := ok_one rfl fun {N sc X st} w q => by
  split at q <;> try (simp at q; done)
  rename_i y py e pos
  simp only [Bool.and_eq_true, Bool.or_eq_true, Bool.not_eq_true'] at q
  obtain ⟨⟨q1, q2⟩, q3⟩ := q
  obtain ⟨n1, n2, n3, n4⟩ := nmOk_ok w.o q1
  cases hs : swT sc y py e with
  | false =>
    have hl : loc sc y = true := by
      unfold nmOk at q1
      simp only [Bool.and_eq_true] at q1
      exact q1.2
    exact PS.imp (ps_set n1 n2 n3 ((hk t).v w.o q2) (sw_false w hl hs) n4) fun D σ H z => i_asg z
  | true =>
    rw [hs] at q3
    exact PS.imp (ps_lcX hk w q1 hs t (by simpa using q3) q2) fun D σ H z => i_asg z
theorem z_unp {is : List Nat} (hk : ∀ t, CkOk g F lv t) : CkSOk g F lv (.unp is t) := ok_one rfl fun {N sc X st} w q => by
  split at q <;> try (simp at q; done)
  rename_i tg e pos
  simp only [Bool.and_eq_true] at q
  obtain ⟨⟨q1, q2⟩, q3⟩ := q
  have hg := pg_tg w.o q1
  cases tg <;> simp only [ckTg, Bool.false_eq_true] at q1
  case Tuple es kk pt =>
  refine PS.imp (ps_asg ((hk t).v w.o q3) hg ?_ ?_) fun D σ H z => i_unp z
  · cases e <;> first | rfl | simp [okUnp] at q2
  · cases e <;> first | rfl | simp [okUnp] at q2
theorem starAny2 {u w : Expr} (h1 : nostar u = true) (h2 : nostar w = true) : ([u, w].any fun x => match x with | .Starred _ _ => true | _ => false) = false := by
  cases u <;> first | (simp [nostar] at h1; done) | (cases w <;> first | rfl | simp [nostar] at h2)
theorem starAny3 {u w t : Expr} (h1 : nostar u = true) (h2 : nostar w = true) (h3 : nostar t = true) : ([u, w, t].any fun x => match x with | .Starred _ _ => true | _ => false) = false := by
  cases u <;> first | (simp [nostar] at h1; done) | exact starAny2 h2 h3
theorem z_par {oi oj : Bool} (hk : ∀ t, CkOk g F lv t) : CkSOk g F lv (.par i j oi oj a b) := ok_one rfl fun {N sc X st} w q => by
  split at q <;> try (simp at q; done)
  rename_i x px y py kt pt u v k2 p2 pos
  simp only [Bool.and_eq_true, Bool.or_eq_true, decide_eq_true_eq] at q
  obtain ⟨⟨⟨⟨⟨⟨⟨q1, q2⟩, q3⟩, q4⟩, q5⟩, q6⟩, q7⟩, q8⟩ := q
  obtain ⟨n1, n2, n3, n4⟩ := nmOk_ok w.o q1
  obtain ⟨m1, m2, m3, m4⟩ := nmOk_ok w.o q2
  have pa : PA X [u, v] (tCons (tE X.K F a) (tCons (tE X.K F b) tNil)) := pa_cons ((hk a).v w.o q6) (pa_cons ((hk b).v w.o q7) pa_nil (star_cons q5)) (star_cons q4)
  have cell : swappedStores [.Tuple [.Name x px, .Name y py] kt pt] (.Tuple [u, v] k2 p2) X.env = pure none → PS X (.Assign [.Tuple [.Name x px, .Name y py] kt pt] (.Tuple [u, v] k2 p2) pos) (tS X.K F (.par i j oi oj a b)) := fun h =>
    PS.imp (ps_asg (pe_tup pa) (pg_tup w.o.calm (pgs_cons (pg_name n1 n2 n3 n4) (pgs_cons (pg_name m1 m2 m3 m4) pgs_nil))) rfl h) fun D σ H z => i_parT z
  rcases q8 with ((h | h) | h) | h
  · exact cell (sw2_none (.inl (isCell_ok w.o h)))
  · exact cell (sw2_none (.inr (isCell_ok w.o h)))
  · exact cell (sw2_fold h)
  · simp only [Bool.not_eq_true'] at h
    obtain ⟨⟨⟨⟨⟨h1, h2⟩, h3⟩, h4⟩, h5⟩, h6⟩ := h
    have l1 := isLoc_ok w.o h1
    have l2 := isLoc_ok w.o h2
    exact PS.imp (ps_par w.o.calm n1 n2 m2 q3 l1 l2 pa (sw2_some w.kind l1 l2 h3 h4 (starAny2 q4 q5) h5 h6)) fun D σ H z => i_par z
theorem z_tri {oi oj ok : Bool} (hk : ∀ t, CkOk g F lv t) : CkSOk g F lv (.tri i j k oi oj ok a b c) := ok_one rfl fun {N sc X st} w q => by
  split at q <;> try (simp at q; done)
  rename_i x px y py z pz kt pt u v t k2 p2 pos
  simp only [Bool.and_eq_true, Bool.not_eq_true', decide_eq_true_eq] at q
  obtain ⟨⟨⟨⟨⟨⟨⟨⟨⟨⟨⟨⟨q1, q2⟩, q3⟩, q4⟩, q5⟩, q6⟩, q7⟩, q8⟩, q9⟩, q10⟩, q11⟩, q12⟩, ⟨⟨⟨⟨⟨⟨⟨⟨⟨h1, h2⟩, h3⟩, h4⟩, h5⟩, h6⟩, h7⟩, h8⟩, h9⟩, h10⟩⟩ := q
  obtain ⟨n1, n2, n3, n4⟩ := nmOk_ok w.o q1
  obtain ⟨m1, m2, m3, m4⟩ := nmOk_ok w.o q2
  obtain ⟨o1, o2, o3, o4⟩ := nmOk_ok w.o q3
  have pa : PA X [u, v, t] (tCons (tE X.K F a) (tCons (tE X.K F b) (tCons (tE X.K F c) tNil))) := pa_cons ((hk a).v w.o q10) (pa_cons ((hk b).v w.o q11) (pa_cons ((hk c).v w.o q12) pa_nil (star_cons q9)) (star_cons q8)) (star_cons q7)
  have l1 := isLoc_ok w.o h1
  have l2 := isLoc_ok w.o h2
  have l3 := isLoc_ok w.o h3
  exact PS.imp (ps_par3 w.o.calm n1 n2 m2 o2 q4 q5 q6 l1 l2 l3 pa (sw3_some w.kind l1 l2 l3 h4 h5 h6 h7 h8 (starAny3 q7 q8 q9) h9 h10)) fun D σ H z => i_tri z
theorem z_par3 (hk : ∀ t, CkOk g F lv t) : CkSOk g F lv (.par3 i j k a b) := ok_one rfl fun {N sc X st} w q => by
  split at q <;> try (simp at q; done)
  rename_i x px y py z pz kt pt k3 p3 u v k2 p2 pos
  simp only [Bool.and_eq_true] at q
  obtain ⟨⟨⟨⟨⟨⟨q1, q2⟩, q3⟩, q4⟩, q5⟩, q6⟩, q7⟩ := q
  obtain ⟨n1, n2, n3, n4⟩ := nmOk_ok w.o q1
  obtain ⟨m1, m2, m3, m4⟩ := nmOk_ok w.o q2
  obtain ⟨o1, o2, o3, o4⟩ := nmOk_ok w.o q3
  have pa : PA X [u, v] (tCons (tE X.K F a) (tCons (tE X.K F b) tNil)) := pa_cons ((hk a).v w.o q6) (pa_cons ((hk b).v w.o q7) pa_nil (star_cons q5)) (star_cons q4)
  exact PS.imp (ps_asg (pe_tup pa) (pg_tup w.o.calm (pgs_cons (pg_name n1 n2 n3 n4) (pgs_cons (pg_tup w.o.calm (pgs_cons (pg_name m1 m2 m3 m4) (pgs_cons (pg_name o1 o2 o3 o4) pgs_nil))) pgs_nil))) rfl sw_nest) fun D σ H z => i_par3 z
theorem z_ret (hk : ∀ t, CkOk g F lv t) : CkSOk g F lv (.ret t) := ok_one rfl fun {N sc X st} w q => by
  split at q <;> try (simp at q; done)
  exact PS.imp (ps_ret ((hk t).v w.o q)) fun D σ H z => i_ret z
theorem z_retv : CkSOk g F lv (.retv i) := ok_one rfl fun {N sc X st} w q => by
  split at q <;> try (simp at q; done)
  exact PS.imp (ps_ret (vr_ok w.o q)) fun D σ H z => i_retv z
theorem z_rai : CkSOk g F lv .rai := ok_one rfl fun {N sc X st} w q => PS.imp ps_never fun D σ H z => i_rai z
theorem z_mov : CkSOk g F lv (.mov i j) := ok_one rfl fun {N sc X st} w q => by
  split at q <;> try (simp at q; done)
  simp only [Bool.and_eq_true] at q
  obtain ⟨n1, n2, n3, n4⟩ := nmOk_ok w.o q.1
  exact PS.imp (ps_set n1 n2 n3 (vr_ok w.o q.2) rfl n4) fun D σ H z => i_mov z
theorem z_exp (hk : ∀ t, CkOk g F lv t) : CkSOk g F lv (.exp t) := ok_one rfl fun {N sc X st} w q => by
  split at q <;> try (simp at q; done)
  rename_i e pos
  simp only [Bool.and_eq_true] at q
  refine PS.imp (ps_expr ((hk t).v w.o q.2) ?_) fun D σ H z => i_exp z
  cases e <;> first | rfl | (have := q.1; simp [isCall] at this)
theorem z_frz : CkSOk g F lv (.frz i) := ok_one rfl fun {N sc X st} w q => by simp at q
theorem z_ife (hk : ∀ t, CkOk g F lv t) (h1 : CkSOk g F lv s1) (h2 : CkSOk g F lv s2) : CkSOk g F lv (.ife c s1 s2) := ok_one rfl fun {N sc X st} w q => by
  split at q <;> try (simp at q; done)
  simp only [Bool.and_eq_true] at q
  exact PS.imp (ps_if ((hk c).t w.o q.1.1).1 (h1.many w q.1.2) (h2.many w q.2)) fun D σ H z => i_ife z
theorem z_for {tg : Tg} {it : Tm} (hk : ∀ t, CkOk g F lv t) (h1 : CkSOk g F lv s1) : CkSOk g F lv (.for_ tg it s1) := ok_one rfl fun {N sc X st} w q => by
  split at q <;> try (simp at q; done)
  simp only [Bool.and_eq_true] at q
  obtain ⟨⟨⟨q1, q2⟩, q3⟩, q4⟩ := q
  exact PS.imp (ps_for w.pas w.o.calm ((hk it).i w.o q3) (pg_tg w.o q1) (h1.many w q4) (noset_ok q2 _)) fun D σ H z => i_for z
theorem z_sto (hk : ∀ t, CkOk g F lv t) : CkSOk g F lv (.sto i a t) := ok_one rfl fun {N sc X st} w q => by
  split at q <;> try (simp at q; done)
  rename_i x p u sp e pos
  simp only [Bool.and_eq_true] at q
  obtain ⟨⟨⟨q1, q2⟩, q3⟩, q4⟩ := q
  have hg : PG X (.Subscript (.Name x p) u sp) (gSub (tVar i) (tE X.K F a) rSetL) := pg_sub (vr_ok w.o q1) ((hk a).v w.o q3) set_list (fun v => by cases u <;> first | rfl | simp [plainIx] at q2)
  refine PS.imp (ps_asg ((hk t).v w.o q4) hg ?_ ?_) fun D σ H z => i_sto z
  · cases e <;> rfl
  · cases e <;> rfl
theorem z_app (hk : ∀ t, CkOk g F lv t) : CkSOk g F lv (.app i t) := ok_one rfl fun {N sc X st} w q => by
  split at q <;> try (simp at q; done)
  rename_i x p m apos e cpos pos
  simp only [Bool.and_eq_true, decide_eq_true_eq] at q
  obtain ⟨⟨⟨⟨rfl, q1⟩, q2⟩, q3⟩, q4⟩ := q
  have h := pe_bm (X := X) PySem.F.plainAttrs_list PySem.F.slot_list_append PySem.F.type_list_append mt_append (vr_ok (p := p) w.o q1) (pa_cons ((hk t).v w.o q4) pa_nil (star_cons q3)) rfl (by rw [star_cons q3]; rfl) q2 (star_cons q3) rfl
  refine PS.imp (ps_expr h) fun D σ H z => ?_
  obtain ⟨v, h1, p', rfl, ⟨vs, g⟩, ρ, W, T, ts, r, ts', s, e, k⟩ := i_app z
  refine ⟨.ref p', h1, .inl ⟨rfl, vs, SqL.of g⟩, ρ, W, T, ts, r, ts', s, e, fun y H1 A st re => ?_⟩
  obtain ⟨vs', g1, l, q⟩ := k y H1 A st re
  exact ⟨p', vs', y, rfl, rfl, g1, l, q⟩
theorem z_app2 (hk : ∀ t, CkOk g F lv t) : CkSOk g F lv (.app2 i a t) := ok_one rfl fun {N sc X st} w q => by
  split at q <;> try (simp at q; done)
  rename_i x p u sp m apos e cpos pos
  simp only [Bool.and_eq_true, decide_eq_true_eq] at q
  obtain ⟨⟨⟨⟨⟨⟨rfl, q1⟩, q2⟩, q3⟩, q4⟩, q5⟩, q6⟩ := q
  have ho : PE X (.Subscript (.Name x p) u sp) (tOp (rIxK X.K) (tVar i) (tE X.K F a)) := pe_ix (ix_all (by have := w.o.room.un; omega)) (vr_ok w.o q1) ((hk a).v w.o q3) (plainIx_ok q2)
  have h := pe_bm (X := X) PySem.F.plainAttrs_list PySem.F.slot_list_append PySem.F.type_list_append mt_append ho (pa_cons ((hk t).v w.o q6) pa_nil (star_cons q5)) rfl (by rw [star_cons q5]; rfl) q4 (star_cons q5) rfl
  refine PS.imp (ps_expr h) fun D σ H z => ?_
  obtain ⟨v, h1, k1⟩ := i_app2 z
  refine ⟨v, h1, ?_⟩
  obtain ⟨ρ, W, T, ts, r, ts', s, e, k⟩ := k1
  refine ⟨ρ, W, T, ts, r, ts', s, e, fun y H1 A st re => ?_⟩
  have fin : ∀ z H1', (∃ p, z = .ref p ∧ (∃ vs, H1' p = some (.lst vs)) ∧ tE X.K F t σ H1' fun u H2 => ∃ vs, H2 p = some (.lst vs) ∧ vs.length < sizeLine ∧ D.nx σ (upd H2 p (.lst (vs ++ [u])))) → tyV X.K "list" z H1' ∧ tCons (tE X.K F t) tNil σ H1' fun xs H2 => rAppend z xs H2 fun _ H3 => D.nx σ H3 := fun z H1' ⟨p', e1, ⟨vs, g⟩, ρ, W, T, ts, r, ts', s, e, k⟩ => by
    subst e1
    refine ⟨.inl ⟨rfl, vs, SqL.of g⟩, ρ, W, T, ts, r, ts', s, e, fun y H1 A st re => ?_⟩
    obtain ⟨vs', g1, l, q⟩ := k y H1 A st re
    exact ⟨p', vs', y, rfl, rfl, g1, l, q⟩
  rcases k y H1 A st re with ⟨p', xs, n, v', e1, e2, e3, e4, e5⟩ | ⟨p', xs, n, v', e1, e2, e3, e4, e5⟩ | h
  · exact .inl ⟨p', xs, n, v', e1, e2, e3, e4, fin _ _ e5⟩
  · exact .inr (.inl ⟨p', xs, n, v', e1, e2, e3, e4, fin _ _ e5⟩)
  · obtain ⟨a', v', e1, e2, e3⟩ := h
    exact .inr (.inr ⟨a', v', e1, e2, fin _ _ e3⟩)
theorem z_apop (hk : ∀ t, CkOk g F lv t) : CkSOk g F lv (.apop i j t) := ok_one rfl fun {N sc X st} w q => by
  split at q <;> try (simp at q; done)
  rename_i x p m apos y p2 n bpos e dpos cpos pos
  simp only [Bool.and_eq_true, decide_eq_true_eq] at q
  obtain ⟨⟨⟨⟨⟨⟨⟨rfl, rfl⟩, q1⟩, q2⟩, q3⟩, q4⟩, q5⟩, q6⟩ := q
  have hp := pe_bm (X := X) (apos := bpos) (cpos := dpos) PySem.F.plainAttrs_list PySem.F.slot_list_pop PySem.F.type_list_pop mt_popAt (vr_ok (p := p2) w.o q2) (pa_cons ((hk t).v w.o q6) pa_nil (star_cons q5)) rfl (by rw [star_cons q5]; rfl) q4 (star_cons q5) rfl
  have h := pe_bm (X := X) (apos := apos) (cpos := cpos) PySem.F.plainAttrs_list PySem.F.slot_list_append PySem.F.type_list_append mt_append (vr_ok (p := p) w.o q1) (pa_cons hp pa_nil rfl) rfl rfl q3 rfl rfl
  refine PS.imp (ps_expr h) fun D σ H z => ?_
  obtain ⟨v, h1, p', rfl, ⟨vs, g⟩, v2, k1, p2', rfl, ⟨ws, g2⟩, ρ, W, T, ts, r, ts', s, e, k⟩ := i_apop z
  refine ⟨.ref p', h1, .inl ⟨rfl, vs, SqL.of g⟩, .ref p2', k1, .inl ⟨rfl, ws, SqL.of g2⟩, ρ, W, T, ts, r, ts', s, e, fun y H1 A st re => ?_⟩
  obtain ⟨ws', n, mm, w', rfl, g3, e1, l1, e2, vs', g4, l2, q⟩ := k y H1 A st re
  obtain ⟨b1, b2, b3, b4⟩ := ixN_seq e1
  have hl : LIM = 1000000 := rfl
  exact ⟨p2', ws', n, mm, w', rfl, rfl, g3, by omega, by omega, b1, e2, p', vs', w', rfl, rfl, g4, l2, q⟩
theorem chkS_ok (hk : ∀ t, CkOk g F lv t) : ∀ t : Stm, CkSOk g F lv t := by
  intro t
  induction t with
  | nil => exact z_nil
  | seq a b h1 h2 => exact z_seq h1 h2
  | asg => exact z_asg hk
  | mov => exact z_mov
  | unp => exact z_unp hk
  | par => exact z_par hk
  | tri => exact z_tri hk
  | par3 => exact z_par3 hk
  | frz => exact z_frz
  | app => exact z_app hk
  | app2 => exact z_app2 hk
  | sto => exact z_sto hk
  | apop => exact z_apop hk
  | ret => exact z_ret hk
  | retv => exact z_retv
  | rai => exact z_rai
  | exp => exact z_exp hk
  | ife c a b h1 h2 => exact z_ife hk h1 h2
  | for_ tg it b h1 => exact z_for hk h1
end
end Lt

set_option maxRecDepth 100000
set_option maxHeartbeats 0
namespace Lt
open PySem PySem.Spec PyProof.Rows L2
def top (i : Nat) : Stmt := PySem.Challenge.pw_latesights_k54_whole_runs_of_houses_side.main.body.getD i (.Pass ⟨0, 0, 0, 0⟩)
def gInts : List (String × Int) := [("LONGEST", 8), ("VALUES", 0), ("WATCHED_houses", 1), ("TABLE", 2), ("PAIR_houses", 2), ("TRIPLE", 3), ("MOST_FIELDS", 8), ("MOST_VALUES", 5), ("MOST_ROWS", 60), ("WATCHED_runs", 1), ("PAIR_runs", 2)]
def gStrs : List (String × String) := [("SIGNS", "abcdefghijklmnopqrstuvwxyz")]
def gG : G := ⟨fun n => (tab[n]?).map fun p => (Str.ofString p.x, p.d.m), fun x => (gInts.find? fun p => decide (Str.ofString p.1 = x)).map (·.2), fun x => (gStrs.find? fun p => decide (Str.ofString p.1 = x)).map fun p => Str.ofString p.2⟩
def okD (i : Nat) (N : List Str) (d : Df) : Bool := C8.scC N (N.take d.m) (defScope (top i)) && decide (N.length = d.n) && decide (d.m ≤ d.n) && (chkS gG d.body).many N (defScope (top i)) (defBody (top i))
abbrev BindD (i : Nat) (x : Str) (N : List Str) (m : Nat) : Prop := ∀ (kV doc pm : Value) (an : Option Addr) (cdv ct : Value) (us : List Value), us.length = (N.take m).length → bindArgs (PySem.W.fnOf x x (defArgs (top i)) (defBody (top i)) (defScope (top i)) .none kV doc pm an cdv ct) ⟨us, []⟩ = pure ((N.take m).zip us)
theorem c0 : okD 6 n0 b0 = true := by decide +kernel
theorem bd0 : BindD 6 "is_number" n0 1 := fun _ _ _ _ _ _ us hl => match us, hl with | [_], _ => by kernel_rfl
theorem c1 : okD 7 n1 b1 = true := by decide +kernel
theorem bd1 : BindD 7 "is_name" n1 1 := fun _ _ _ _ _ _ us hl => match us, hl with | [_], _ => by kernel_rfl
theorem c2 : okD 8 n2 b2 = true := by decide +kernel
theorem bd2 : BindD 8 "tupled" n2 1 := fun _ _ _ _ _ _ us hl => match us, hl with | [_], _ => by kernel_rfl
theorem c3 : okD 9 n3 b3 = true := by decide +kernel
theorem bd3 : BindD 9 "rises" n3 1 := fun _ _ _ _ _ _ us hl => match us, hl with | [_], _ => by kernel_rfl
theorem c4 : okD 19 n4 b4 = true := by decide +kernel
theorem bd4 : BindD 19 "all_rows" n4 1 := fun _ _ _ _ _ _ us hl => match us, hl with | [_], _ => by kernel_rfl
theorem c5 : okD 20 n5 b5 = true := by decide +kernel
theorem bd5 : BindD 20 "multiplied" n5 1 := fun _ _ _ _ _ _ us hl => match us, hl with | [_], _ => by kernel_rfl
theorem c6 : okD 21 n6 b6 = true := by decide +kernel
theorem bd6 : BindD 21 "is_field_shape" n6 2 := fun _ _ _ _ _ _ us hl => match us, hl with | [_, _], _ => by kernel_rfl
theorem c7 : okD 22 n7 b7 = true := by decide +kernel
theorem bd7 : BindD 22 "sizes_of" n7 2 := fun _ _ _ _ _ _ us hl => match us, hl with | [_, _], _ => by kernel_rfl
theorem c8 : okD 23 n8 b8 = true := by decide +kernel
theorem bd8 : BindD 23 "is_house" n8 1 := fun _ _ _ _ _ _ us hl => match us, hl with | [_], _ => by kernel_rfl
theorem c9 : okD 24 n9 b9 = true := by decide +kernel
theorem bd9 : BindD 24 "is_value" n9 3 := fun _ _ _ _ _ _ us hl => match us, hl with | [_, _, _], _ => by kernel_rfl
theorem c10 : okD 25 n10 b10 = true := by decide +kernel
theorem bd10 : BindD 25 "is_state" n10 2 := fun _ _ _ _ _ _ us hl => match us, hl with | [_, _], _ => by kernel_rfl
theorem c11 : okD 26 n11 b11 = true := by decide +kernel
theorem bd11 : BindD 26 "is_value_set" n11 3 := fun _ _ _ _ _ _ us hl => match us, hl with | [_, _, _], _ => by kernel_rfl
theorem c12 : okD 27 n12 b12 = true := by decide +kernel
theorem bd12 : BindD 27 "is_box" n12 2 := fun _ _ _ _ _ _ us hl => match us, hl with | [_, _], _ => by kernel_rfl
theorem c13 : okD 28 n13 b13 = true := by decide +kernel
theorem bd13 : BindD 28 "is_in" n13 2 := fun _ _ _ _ _ _ us hl => match us, hl with | [_, _], _ => by kernel_rfl
theorem c14 : okD 29 n14 b14 = true := by decide +kernel
theorem bd14 : BindD 29 "is_start" n14 2 := fun _ _ _ _ _ _ us hl => match us, hl with | [_, _], _ => by kernel_rfl
theorem c15 : okD 30 n15 b15 = true := by decide +kernel
theorem bd15 : BindD 30 "check_place" n15 2 := fun _ _ _ _ _ _ us hl => match us, hl with | [_, _], _ => by kernel_rfl
theorem c16 : okD 31 n16 b16 = true := by decide +kernel
theorem bd16 : BindD 31 "check_value" n16 3 := fun _ _ _ _ _ _ us hl => match us, hl with | [_, _, _], _ => by kernel_rfl
theorem c17 : okD 32 n17 b17 = true := by decide +kernel
theorem bd17 : BindD 32 "table_at" n17 3 := fun _ _ _ _ _ _ us hl => match us, hl with | [_, _, _], _ => by kernel_rfl
theorem c18 : okD 33 n18 b18 = true := by decide +kernel
theorem bd18 : BindD 33 "rows_of" n18 2 := fun _ _ _ _ _ _ us hl => match us, hl with | [_, _], _ => by kernel_rfl
theorem c19 : okD 34 n19 b19 = true := by decide +kernel
theorem bd19 : BindD 34 "does_matter" n19 3 := fun _ _ _ _ _ _ us hl => match us, hl with | [_, _, _], _ => by kernel_rfl
theorem c20 : okD 35 n20 b20 = true := by decide +kernel
theorem bd20 : BindD 35 "matters" n20 2 := fun _ _ _ _ _ _ us hl => match us, hl with | [_, _], _ => by kernel_rfl
theorem c21 : okD 36 n21 b21 = true := by decide +kernel
theorem bd21 : BindD 36 "checked" n21 1 := fun _ _ _ _ _ _ us hl => match us, hl with | [_], _ => by kernel_rfl
theorem c22 : okD 37 n22 b22 = true := by decide +kernel
theorem bd22 : BindD 37 "put_in" n22 3 := fun _ _ _ _ _ _ us hl => match us, hl with | [_, _, _], _ => by kernel_rfl
theorem c23 : okD 38 n23 b23 = true := by decide +kernel
theorem bd23 : BindD 38 "told_anew" n23 4 := fun _ _ _ _ _ _ us hl => match us, hl with | [_, _, _, _], _ => by kernel_rfl
theorem c24 : okD 39 n24 b24 = true := by decide +kernel
theorem bd24 : BindD 39 "lean" n24 1 := fun _ _ _ _ _ _ us hl => match us, hl with | [_], _ => by kernel_rfl
theorem c25 : okD 40 n25 b25 = true := by decide +kernel
theorem bd25 : BindD 40 "beside" n25 2 := fun _ _ _ _ _ _ us hl => match us, hl with | [_, _], _ => by kernel_rfl
theorem c26 : okD 41 n26 b26 = true := by decide +kernel
theorem bd26 : BindD 41 "renamed" n26 4 := fun _ _ _ _ _ _ us hl => match us, hl with | [_, _, _, _], _ => by kernel_rfl
theorem c27 : okD 45 n27 b27 = true := by decide +kernel
theorem bd27 : BindD 45 "first_versions" n27 2 := fun _ _ _ _ _ _ us hl => match us, hl with | [_, _], _ => by kernel_rfl
theorem c28 : okD 46 n28 b28 = true := by decide +kernel
theorem bd28 : BindD 46 "value_by" n28 4 := fun _ _ _ _ _ _ us hl => match us, hl with | [_, _, _, _], _ => by kernel_rfl
theorem c29 : okD 47 n29 b29 = true := by decide +kernel
theorem bd29 : BindD 47 "versions_in" n29 2 := fun _ _ _ _ _ _ us hl => match us, hl with | [_, _], _ => by kernel_rfl
theorem c30 : okD 48 n30 b30 = true := by decide +kernel
theorem bd30 : BindD 48 "versions" n30 3 := fun _ _ _ _ _ _ us hl => match us, hl with | [_, _, _], _ => by kernel_rfl
theorem c31 : okD 49 n31 b31 = true := by decide +kernel
theorem bd31 : BindD 49 "writes" n31 2 := fun _ _ _ _ _ _ us hl => match us, hl with | [_, _], _ => by kernel_rfl
theorem c32 : okD 50 n32 b32 = true := by decide +kernel
theorem bd32 : BindD 50 "states_along" n32 2 := fun _ _ _ _ _ _ us hl => match us, hl with | [_, _], _ => by kernel_rfl
theorem c33 : okD 51 n33 b33 = true := by decide +kernel
theorem bd33 : BindD 51 "state_behind" n33 2 := fun _ _ _ _ _ _ us hl => match us, hl with | [_, _], _ => by kernel_rfl
theorem c34 : okD 52 n34 b34 = true := by decide +kernel
theorem bd34 : BindD 52 "counts_at" n34 3 := fun _ _ _ _ _ _ us hl => match us, hl with | [_, _, _], _ => by kernel_rfl
theorem c35 : okD 53 n35 b35 = true := by decide +kernel
theorem bd35 : BindD 53 "all_strides" n35 2 := fun _ _ _ _ _ _ us hl => match us, hl with | [_, _], _ => by kernel_rfl
theorem c36 : okD 54 n36 b36 = true := by decide +kernel
theorem bd36 : BindD 54 "strides" n36 2 := fun _ _ _ _ _ _ us hl => match us, hl with | [_, _], _ => by kernel_rfl
theorem c37 : okD 55 n37 b37 = true := by decide +kernel
theorem bd37 : BindD 55 "newest_by" n37 3 := fun _ _ _ _ _ _ us hl => match us, hl with | [_, _, _], _ => by kernel_rfl
theorem c38 : okD 56 n38 b38 = true := by decide +kernel
theorem bd38 : BindD 56 "newest" n38 3 := fun _ _ _ _ _ _ us hl => match us, hl with | [_, _, _], _ => by kernel_rfl
theorem c39 : okD 57 n39 b39 = true := by decide +kernel
theorem bd39 : BindD 57 "with_move" n39 3 := fun _ _ _ _ _ _ us hl => match us, hl with | [_, _, _], _ => by kernel_rfl
theorem c40 : okD 58 n40 b40 = true := by decide +kernel
theorem bd40 : BindD 58 "sights_back" n40 4 := fun _ _ _ _ _ _ us hl => match us, hl with | [_, _, _, _], _ => by kernel_rfl
theorem c41 : okD 59 n41 b41 = true := by decide +kernel
theorem bd41 : BindD 59 "gone" n41 3 := fun _ _ _ _ _ _ us hl => match us, hl with | [_, _, _], _ => by kernel_rfl
theorem c42 : okD 60 n42 b42 = true := by decide +kernel
theorem bd42 : BindD 60 "has_form" n42 2 := fun _ _ _ _ _ _ us hl => match us, hl with | [_, _], _ => by kernel_rfl
theorem c43 : okD 61 n43 b43 = true := by decide +kernel
theorem bd43 : BindD 61 "is_run" n43 2 := fun _ _ _ _ _ _ us hl => match us, hl with | [_, _], _ => by kernel_rfl
theorem c44 : okD 62 n44 b44 = true := by decide +kernel
theorem bd44 : BindD 62 "is_circuit" n44 3 := fun _ _ _ _ _ _ us hl => match us, hl with | [_, _, _], _ => by kernel_rfl
theorem c45 : okD 63 n45 b45 = true := by decide +kernel
theorem bd45 : BindD 63 "depths" n45 2 := fun _ _ _ _ _ _ us hl => match us, hl with | [_, _], _ => by kernel_rfl
theorem c46 : okD 64 n46 b46 = true := by decide +kernel
theorem bd46 : BindD 64 "is_lap" n46 2 := fun _ _ _ _ _ _ us hl => match us, hl with | [_, _], _ => by kernel_rfl
theorem c47 : okD 65 n47 b47 = true := by decide +kernel
theorem bd47 : BindD 65 "circuit_states" n47 2 := fun _ _ _ _ _ _ us hl => match us, hl with | [_, _], _ => by kernel_rfl
theorem c48 : okD 66 n48 b48 = true := by decide +kernel
theorem bd48 : BindD 66 "swings" n48 2 := fun _ _ _ _ _ _ us hl => match us, hl with | [_, _], _ => by kernel_rfl
theorem c49 : okD 67 n49 b49 = true := by decide +kernel
theorem bd49 : BindD 67 "cut_run" n49 2 := fun _ _ _ _ _ _ us hl => match us, hl with | [_, _], _ => by kernel_rfl
theorem c50 : okD 69 n50 b50 = true := by decide +kernel
theorem bd50 : BindD 69 "_law_box" n50 2 := fun _ _ _ _ _ _ us hl => match us, hl with | [_, _], _ => by kernel_rfl
theorem c51 : okD 70 n51 b51 = true := by decide +kernel
theorem bd51 : BindD 70 "_law_take" n51 2 := fun _ _ _ _ _ _ us hl => match us, hl with | [_, _], _ => by kernel_rfl
theorem c52 : okD 71 n52 b52 = true := by decide +kernel
theorem bd52 : BindD 71 "_law_cells" n52 2 := fun _ _ _ _ _ _ us hl => match us, hl with | [_, _], _ => by kernel_rfl
theorem c53 : okD 72 n53 b53 = true := by decide +kernel
theorem bd53 : BindD 72 "_law_of" n53 2 := fun _ _ _ _ _ _ us hl => match us, hl with | [_, _], _ => by kernel_rfl
theorem c54 : okD 73 n54 b54 = true := by decide +kernel
theorem bd54 : BindD 73 "_law_pick" n54 3 := fun _ _ _ _ _ _ us hl => match us, hl with | [_, _, _], _ => by kernel_rfl
theorem c55 : okD 74 n55 b55 = true := by decide +kernel
theorem bd55 : BindD 74 "_law_same" n55 2 := fun _ _ _ _ _ _ us hl => match us, hl with | [_, _], _ => by kernel_rfl
theorem c56 : okD 75 n56 b56 = true := by decide +kernel
theorem bd56 : BindD 75 "_law_rows" n56 1 := fun _ _ _ _ _ _ us hl => match us, hl with | [_], _ => by kernel_rfl
theorem c57 : okD 76 n57 b57 = true := by decide +kernel
theorem bd57 : BindD 76 "_law_sizes" n57 2 := fun _ _ _ _ _ _ us hl => match us, hl with | [_, _], _ => by kernel_rfl
theorem c58 : okD 77 n58 b58 = true := by decide +kernel
theorem bd58 : BindD 77 "_law_told" n58 3 := fun _ _ _ _ _ _ us hl => match us, hl with | [_, _, _], _ => by kernel_rfl
theorem c59 : okD 78 n59 b59 = true := by decide +kernel
theorem bd59 : BindD 78 "_law_hall" n59 3 := fun _ _ _ _ _ _ us hl => match us, hl with | [_, _, _], _ => by kernel_rfl
theorem c60 : okD 79 n60 b60 = true := by decide +kernel
theorem bd60 : BindD 79 "_law_spot" n60 2 := fun _ _ _ _ _ _ us hl => match us, hl with | [_, _], _ => by kernel_rfl
theorem c61 : okD 80 n61 b61 = true := by decide +kernel
theorem bd61 : BindD 80 "_law_start" n61 2 := fun _ _ _ _ _ _ us hl => match us, hl with | [_, _], _ => by kernel_rfl
theorem c62 : okD 81 n62 b62 = true := by decide +kernel
theorem bd62 : BindD 81 "_law_versions" n62 1 := fun _ _ _ _ _ _ us hl => match us, hl with | [_], _ => by kernel_rfl
theorem c63 : okD 82 n63 b63 = true := by decide +kernel
theorem bd63 : BindD 82 "_law_played" n63 3 := fun _ _ _ _ _ _ us hl => match us, hl with | [_, _, _], _ => by kernel_rfl
theorem c64 : okD 83 n64 b64 = true := by decide +kernel
theorem bd64 : BindD 83 "_law_moves" n64 4 := fun _ _ _ _ _ _ us hl => match us, hl with | [_, _, _, _], _ => by kernel_rfl
theorem c65 : okD 84 n65 b65 = true := by decide +kernel
theorem bd65 : BindD 84 "_law_lamps" n65 0 := fun _ _ _ _ _ _ us hl => match us, hl with | [], _ => by kernel_rfl
theorem c66 : okD 85 n66 b66 = true := by decide +kernel
theorem bd66 : BindD 85 "_law_swings" n66 0 := fun _ _ _ _ _ _ us hl => match us, hl with | [], _ => by kernel_rfl
theorem c67 : okD 86 n67 b67 = true := by decide +kernel
theorem bd67 : BindD 86 "_law_counts" n67 3 := fun _ _ _ _ _ _ us hl => match us, hl with | [_, _, _], _ => by kernel_rfl
theorem c68 : okD 87 n68 b68 = true := by decide +kernel
theorem bd68 : BindD 87 "_law_gone" n68 4 := fun _ _ _ _ _ _ us hl => match us, hl with | [_, _, _, _], _ => by kernel_rfl
theorem c69 : okD 88 n69 b69 = true := by decide +kernel
theorem bd69 : BindD 88 "_law_deep" n69 2 := fun _ _ _ _ _ _ us hl => match us, hl with | [_, _], _ => by kernel_rfl
theorem c70 : okD 89 n70 b70 = true := by decide +kernel
theorem bd70 : BindD 89 "_law_tails" n70 4 := fun _ _ _ _ _ _ us hl => match us, hl with | [_, _, _, _], _ => by kernel_rfl
theorem c71 : okD 90 n71 b71 = true := by decide +kernel
theorem bd71 : BindD 90 "_law_woven" n71 4 := fun _ _ _ _ _ _ us hl => match us, hl with | [_, _, _, _], _ => by kernel_rfl
theorem c72 : okD 91 n72 b72 = true := by decide +kernel
theorem bd72 : BindD 91 "_law_met" n72 4 := fun _ _ _ _ _ _ us hl => match us, hl with | [_, _, _, _], _ => by kernel_rfl
theorem c73 : okD 92 n73 b73 = true := by decide +kernel
theorem bd73 : BindD 92 "_law_beside_right" n73 4 := fun _ _ _ _ _ _ us hl => match us, hl with | [_, _, _, _], _ => by kernel_rfl
theorem c74 : okD 93 n74 b74 = true := by decide +kernel
theorem bd74 : BindD 93 "_law_laps_right" n74 3 := fun _ _ _ _ _ _ us hl => match us, hl with | [_, _, _], _ => by kernel_rfl
theorem c75 : okD 94 n75 b75 = true := by decide +kernel
theorem bd75 : BindD 94 "_law_turned_right" n75 3 := fun _ _ _ _ _ _ us hl => match us, hl with | [_, _, _], _ => by kernel_rfl
theorem c76 : okD 95 n76 b76 = true := by decide +kernel
theorem bd76 : BindD 95 "_law_by_hand_right" n76 1 := fun _ _ _ _ _ _ us hl => match us, hl with | [_], _ => by kernel_rfl
theorem c77 : okD 96 n77 b77 = true := by decide +kernel
theorem bd77 : BindD 96 "_law_right" n77 1 := fun _ _ _ _ _ _ us hl => match us, hl with | [_], _ => by kernel_rfl
theorem c78 : okD 97 n78 b78 = true := by decide +kernel
theorem bd78 : BindD 97 "law" n78 1 := fun _ _ _ _ _ _ us hl => match us, hl with | [_], _ => by kernel_rfl
structure OkE (e : E1) : Prop where
  c : okD e.i e.N e.d = true
  b : BindD e.i (Str.ofString e.x) e.N e.d.m
def AllE : List E1 → Prop
  | [] => True
  | e :: r => OkE e ∧ AllE r
theorem AllE.mem : ∀ {l : List E1}, AllE l → ∀ e ∈ l, OkE e
  | [], _, e, h => by simp at h
  | a :: r, h, e, he => by
    rcases List.mem_cons.mp he with z | z
    · rw [z]; exact h.1
    · exact AllE.mem h.2 e z
theorem allE : AllE tab := ⟨⟨c0, bd0⟩, ⟨c1, bd1⟩, ⟨c2, bd2⟩, ⟨c3, bd3⟩, ⟨c4, bd4⟩, ⟨c5, bd5⟩, ⟨c6, bd6⟩, ⟨c7, bd7⟩, ⟨c8, bd8⟩, ⟨c9, bd9⟩, ⟨c10, bd10⟩, ⟨c11, bd11⟩, ⟨c12, bd12⟩, ⟨c13, bd13⟩, ⟨c14, bd14⟩, ⟨c15, bd15⟩, ⟨c16, bd16⟩, ⟨c17, bd17⟩, ⟨c18, bd18⟩, ⟨c19, bd19⟩, ⟨c20, bd20⟩, ⟨c21, bd21⟩, ⟨c22, bd22⟩, ⟨c23, bd23⟩, ⟨c24, bd24⟩, ⟨c25, bd25⟩, ⟨c26, bd26⟩, ⟨c27, bd27⟩, ⟨c28, bd28⟩, ⟨c29, bd29⟩, ⟨c30, bd30⟩, ⟨c31, bd31⟩, ⟨c32, bd32⟩, ⟨c33, bd33⟩, ⟨c34, bd34⟩, ⟨c35, bd35⟩, ⟨c36, bd36⟩, ⟨c37, bd37⟩, ⟨c38, bd38⟩, ⟨c39, bd39⟩, ⟨c40, bd40⟩, ⟨c41, bd41⟩, ⟨c42, bd42⟩, ⟨c43, bd43⟩, ⟨c44, bd44⟩, ⟨c45, bd45⟩, ⟨c46, bd46⟩, ⟨c47, bd47⟩, ⟨c48, bd48⟩, ⟨c49, bd49⟩, ⟨c50, bd50⟩, ⟨c51, bd51⟩, ⟨c52, bd52⟩, ⟨c53, bd53⟩, ⟨c54, bd54⟩, ⟨c55, bd55⟩, ⟨c56, bd56⟩, ⟨c57, bd57⟩, ⟨c58, bd58⟩, ⟨c59, bd59⟩, ⟨c60, bd60⟩, ⟨c61, bd61⟩, ⟨c62, bd62⟩, ⟨c63, bd63⟩, ⟨c64, bd64⟩, ⟨c65, bd65⟩, ⟨c66, bd66⟩, ⟨c67, bd67⟩, ⟨c68, bd68⟩, ⟨c69, bd69⟩, ⟨c70, bd70⟩, ⟨c71, bd71⟩, ⟨c72, bd72⟩, ⟨c73, bd73⟩, ⟨c74, bd74⟩, ⟨c75, bd75⟩, ⟨c76, bd76⟩, ⟨c77, bd77⟩, ⟨c78, bd78⟩, trivial⟩
end Lt

namespace Lt
open PySem PySem.Spec PyProof.Rows L2
theorem getE_args : ∀ {ds : List Lt.D} {k i : Nat} {r : R}, getE (ds.map (fun d => some (.p d)) ++ List.replicate k none) i = some r → ∃ d, ds[i]? = some d ∧ r = .p d
  | [], k, i, r, h => by
    rw [getE_eq] at h
    simp only [List.map_nil, List.nil_append, List.getElem?_replicate] at h
    split at h <;> simp at h
  | d :: ds, k, 0, r, h => by
    simp only [List.map_cons, List.cons_append, getE, Option.some.injEq] at h
    exact ⟨d, rfl, h.symm⟩
  | d :: ds, k, i + 1, r, h => by
    simp only [List.map_cons, List.cons_append, getE] at h
    obtain ⟨d', h1, h2⟩ := getE_args h
    exact ⟨d', by simpa using h1, h2⟩
theorem rep_flat {n : Nat} : (List.replicate n ([] : List Addr)).flatten = [] := by
  induction n with
  | zero => rfl
  | succ n ih => simp [List.replicate_succ, ih]
section
variable {P : Program} {w : World} {K : PySem.W.Frag} {mg : Str → Option Value} {base : Heap} {F : FT} {lv : Nat}
structure Facts (P : Program) (w : World) (K : PySem.W.Frag) (mg : Str → Option Value) (base : Heap) (F : FT) (lv : Nat) : Prop where
  fns : ∀ n x m, gG.fns n = some (x, m) → C8.Cal P w K mg base lv x (spOf K m (F n)) [] ∧ (∀ ds ts q, F n ds ts = some q → ds.length = m)
  gi : ∀ x i, gG.gi x = some i → ∃ u, mg x = some u ∧ RelV (.int i) u
  gs : ∀ x i, gG.gs x = some i → ∃ u, mg x = some u ∧ RelV (.str i) u
  bn : ∀ x ∈ bNames, mg x = none
theorem df_ok {x : Str} {i : Nat} {N : List Str} {d : Df} {f : Addr} {fd : FuncData} (hF : FunD K x x (defArgs (top i)) (defBody (top i)) (defScope (top i)) [] [] f fd) (hc : okD i N d = true) (fx : Facts P w K mg base F lv) :
    FnOk P w K mg base C8.CX0 (lv + 1) f fd (N.take d.m) (spOf K d.m (d.run F)) := by
  unfold okD at hc
  simp only [Bool.and_eq_true, decide_eq_true_eq] at hc
  obtain ⟨⟨⟨h1, h2⟩, h3⟩, h4⟩ := hc
  have S := C8.fnScope_by h1
  have hps : (N.take d.m).length = d.m := by rw [List.length_take]; omega
  refine hF.ok S (fun vs H Q E h => by rw [hps]; exact h.1) fun cdv A outer s H vs Q E hr h => ⟨tS K F d.body, ?_, ?_⟩
  · refine (chkS_ok chk_ok d.body).many (sc := defScope (top i)) (lv := lv) ⟨⟨rfl, S.nd, rfl, hr, fun x k e => ⟨k, e, .inl rfl⟩, fun _ _ => rfl, fx.fns, fx.gi, fx.gs, fx.bn⟩, S.kind, passes_of rfl⟩ h4
  · obtain ⟨hv, T, ts, ds, r, ts', tin, rs, hrun, hcl, hQ⟩ := h
    unfold Df.run at hrun
    split at hrun
    · rename_i hdl
      have hW : (List.replicate (d.m + (d.n - d.m)) ([] : List Addr)).flatten = [] := rep_flat
      have hM : ∀ a, Mof (List.replicate (d.m + (d.n - d.m)) []) T a ↔ T = some a := fun a => by
        unfold Mof
        rw [hW]
        simp
      have hvl := rs.length
      have sr : SR K (ds.map (fun d => some (.p d)) ++ List.replicate (d.n - d.m) none) (List.replicate (d.m + (d.n - d.m)) []) T (start N vs) H ts := by
        refine ⟨?_, ?_, fun j q hj => ?_, by rw [hW]; exact List.nodup_nil, fun a ha => by rw [hW] at ha; simp at ha, fun a ha => by rw [hW] at ha; simp at ha, tin⟩
        · show (vs.map some ++ List.replicate (N.length - vs.length) none).length = _
          simp [hv, hdl, h2]
        · simp [hdl]
        · obtain ⟨dd, e1, rfl⟩ := getE_args hj
          obtain ⟨v, e2, e3⟩ := rs.get e1
          have hjl : j < vs.length := (List.getElem?_eq_some_iff.mp e2).1
          refine ⟨v, [], ?_, ?_, Rp.imp (fun a o g n => ⟨g, fun z => n ((hM a).mp z)⟩) e3⟩
          · show (vs.map some ++ List.replicate (N.length - vs.length) none)[j]? = _
            rw [List.getElem?_append_left (by simpa using hjl), List.getElem?_map, e2]
            rfl
          · rw [List.getElem?_replicate, if_pos (by omega)]
      have stp : ∀ {W' : List (List Addr)} {H' : Hp}, (∀ a o, H a = some o → ¬ Mof (List.replicate (d.m + (d.n - d.m)) []) T a → H' a = some o) → TinAt T H' ts' → Step T H H' ts' := fun k t => ⟨fun a o g n => k a o g fun z => n ((hM a).mp z), t⟩
      split at hrun
      · rename_i q ts1 e
        simp only [Option.some.injEq, Prod.mk.injEq] at hrun
        obtain ⟨rfl, rfl⟩ := hrun
        refine ⟨_, _, T, ts, _, _, sr, e, fun v H' A z _ => hQ v H' A (stp (W' := []) z.keep z.tin) ⟨fun a ha => ?_, z.nd, z.sl⟩⟩
        obtain ⟨z1, z2, z3⟩ := z.fr a ha
        refine ⟨?_, z2, z3⟩
        rcases z1 with z1 | z1
        · exact z1
        · rw [hW] at z1; simp at z1
      · rename_i ρ' ts1 e
        simp only [Option.some.injEq, Prod.mk.injEq] at hrun
        obtain ⟨rfl, rfl⟩ := hrun
        exact ⟨_, _, T, ts, _, _, sr, e, fun σ' H' W' st s' => hQ .non H' [] (stp (W' := []) (fun a o g n => (st.keep a o g n).1) s'.tin) (.p rfl)⟩
      · simp at hrun
    · simp at hrun
theorem run_len {d : Df} {ds : List Lt.D} {ts : Tin} {q : R × Tin} (h : d.run F ds ts = some q) : ds.length = d.m := by
  unfold Df.run at h
  split at h
  · assumption
  · simp at h
/-- what the head tells -/
structure HeadF (K : PySem.W.Frag) (mg : Str → Option Value) : Prop where
  d : ∀ e ∈ tab, ∃ f fd, FunD K (Str.ofString e.x) (Str.ofString e.x) (defArgs (top e.i)) (defBody (top e.i)) (defScope (top e.i)) [] [] f fd ∧ mg (Str.ofString e.x) = some (.ref f)
  gi : ∀ x i, gG.gi x = some i → ∃ u, mg x = some u ∧ RelV (.int i) u
  gs : ∀ x i, gG.gs x = some i → ∃ u, mg x = some u ∧ RelV (.str i) u
  bn : ∀ x ∈ bNames, mg x = none
theorem fns_tab {n : Nat} {x : Str} {m : Nat} (h : gG.fns n = some (x, m)) : ∃ e, tab[n]? = some e ∧ x = Str.ofString e.x ∧ m = e.d.m := by
  obtain ⟨e, h1, h2⟩ := Option.map_eq_some_iff.mp (show (tab[n]?).map (fun p => (Str.ofString p.x, p.d.m)) = some (x, m) from h)
  simp only [Prod.mk.injEq] at h2
  exact ⟨e, h1, h2.1.symm, h2.2.symm⟩
theorem facts (hf : HeadF K mg) : ∀ l : Nat, Facts P w K mg base (FL l) l
  | 0 => ⟨fun n x m h => by
      obtain ⟨e, h1, rfl, rfl⟩ := fns_tab h
      obtain ⟨f, fd, h2, h3⟩ := hf.d e (List.mem_of_getElem? h1)
      have ok := allE.mem e (List.mem_of_getElem? h1)
      have hc := ok.c
      unfold okD at hc
      simp only [Bool.and_eq_true, decide_eq_true_eq] at hc
      refine ⟨⟨f, fd, e.N.take e.d.m, [], ⟨fun vs H Q E z => ?_, fun A outer s H args us vs Q E hr he hb hv z => ?_⟩, h3, h2.kp, h2.bindsN ok.b, .nil⟩, fun ds ts q z => by simp [FL] at z⟩
      · obtain ⟨_, _, _, _, _, _, _, _, z, _⟩ := z
        simp [FL] at z
      · obtain ⟨_, _, _, _, _, _, _, _, z, _⟩ := z
        simp [FL] at z, hf.gi, hf.gs, hf.bn⟩
  | l + 1 => ⟨fun n x m h => by
      obtain ⟨e, h1, rfl, rfl⟩ := fns_tab h
      obtain ⟨f, fd, h2, h3⟩ := hf.d e (List.mem_of_getElem? h1)
      have ok := allE.mem e (List.mem_of_getElem? h1)
      have eF : FL (l + 1) n = e.d.run (FL l) := by simp only [FL, h1]
      rw [eF]
      exact ⟨⟨f, fd, e.N.take e.d.m, [], df_ok h2 ok.c (facts hf l), h3, h2.kp, h2.bindsN ok.b, .nil⟩, fun ds ts q z => run_len z⟩, hf.gi, hf.gs, hf.bn⟩
end
end Lt

set_option maxRecDepth 100000
set_option maxHeartbeats 0
namespace Lt
open PySem PySem.Spec PyProof.Rows L2
def mkD (e : E1) : He.DefD := ⟨(Str.ofString e.x, none), Str.ofString e.x, Str.ofString e.x, defArgs (top e.i), defBody (top e.i), defScope (top e.i), [], []⟩
def fnH : List He.DefD := tab.map mkD
def faH : List He.Fa := (tab.map fun e => He.Fa.glo (Str.ofString e.x)) ++ (gInts.map fun p => He.Fa.int (Str.ofString p.1) p.2) ++ (gStrs.map fun p => He.Fa.str (Str.ofString p.1) (Str.ofString p.2)) ++ (bNames.map He.Fa.free)
theorem headF {K : PySem.W.Frag} {h : Heap} {mg : Str → Option Value} (X : K.In h) (G : h.Ns mainGlobals mg) (c : He.SaysD faH fnH K) : HeadF K mg where
  d := fun e he => by
    obtain ⟨fd, F⟩ := c.defs (d := mkD e) (List.mem_map_of_mem he)
    refine ⟨_, fd, F, He.glo_ok X G (c.facts (f := .glo (Str.ofString e.x)) ?_)⟩
    exact List.mem_append_left _ (List.mem_append_left _ (List.mem_append_left _ (List.mem_map_of_mem he)))
  gi := fun x i h => by
    obtain ⟨p, h1, h2⟩ := Option.map_eq_some_iff.mp (show (gInts.find? fun p => decide (Str.ofString p.1 = x)).map (·.2) = some i from h)
    have e : Str.ofString p.1 = x := of_decide_eq_true (show (fun q : String × _ => decide (Str.ofString q.1 = x)) p = true from List.find?_some (p := fun q : String × _ => decide (Str.ofString q.1 = x)) h1)
    subst e h2
    obtain ⟨t, e⟩ := He.int_ok X G (c.facts (f := .int (Str.ofString p.1) p.2) (List.mem_append_left _ (List.mem_append_left _ (List.mem_append_right _ (List.mem_map_of_mem (f := fun p : String × Int => He.Fa.int (Str.ofString p.1) p.2) (List.mem_of_find?_eq_some h1))))))
    exact ⟨_, e, t, rfl⟩
  gs := fun x i h => by
    obtain ⟨p, h1, h2⟩ := Option.map_eq_some_iff.mp (show (gStrs.find? fun p => decide (Str.ofString p.1 = x)).map (fun p => Str.ofString p.2) = some i from h)
    have e : Str.ofString p.1 = x := of_decide_eq_true (show (fun q : String × _ => decide (Str.ofString q.1 = x)) p = true from List.find?_some (p := fun q : String × _ => decide (Str.ofString q.1 = x)) h1)
    subst e h2
    obtain ⟨t, e⟩ := He.str_ok X G (c.facts (f := .str (Str.ofString p.1) (Str.ofString p.2)) (List.mem_append_left _ (List.mem_append_right _ (List.mem_map_of_mem (f := fun p : String × String => He.Fa.str (Str.ofString p.1) (Str.ofString p.2)) (List.mem_of_find?_eq_some h1)))))
    exact ⟨_, e, t, rfl⟩
  bn := fun x hx => He.free_ok X G (c.facts (f := .free x) (List.mem_append_right _ (List.mem_map_of_mem hx)))
/-- the law, by Core -/
def Law : Prop := ∀ ns : List Int, ns.length ≤ 63 → FL 24 78 [.scr ns] [] = some (.p (.bl true), [])
def names0 : List String := ["NoNumber", "Unfit"]
def nmH : List Str := (names0.map Str.ofString) ++ (gInts.map fun p => Str.ofString p.1) ++ (gStrs.map fun p => Str.ofString p.1) ++ ((tab.filter fun e => e.x != "law").map fun e => Str.ofString e.x)
abbrev R1 : PySem.W.OpenRow := PySem.W.OpenLaw.row PySem.Challenge.rw_latesights_k54_whole_runs_of_houses_side
abbrev hkH : PySem.W.Hook := He.hookD 2 faH fnH
def obH (s : PySem.W.SharedT) : He.AlD := He.obsDG 2 faH fnH (HandSHeadRun.getT s)
theorem obH_eq (s : PySem.W.SharedT) : obH s = hkH.obs s.abs := He.obsDG_eq (HandSHeadRun.getT_eq s)
theorem runH (w : World) : HandSHeadRun.RunEq R1 (PySem.W.view R1.prog [97]) hkH obH 4000 nmH w := by
  intro os
  kernel_rfl
theorem scr_rep {K : PySem.W.Frag} {H : Hp} {a : Addr} {ns : List Int} (hl : ns.length ≤ 63) (h : SqL K H a (ns.map V.int)) : Rp K (M0 none) none H (.scr ns) (.ref a) := by
  refine ⟨a, rfl, ?_, Nat.le_trans hl (by decide)⟩
  rcases h with h | h
  · exact .inl ⟨h, fun z => by cases z⟩
  · exact .inr (.inr h)
end Lt
open PySem PySem.W PySem.Calls PyProof.Rows
theorem Lt.holds (hlaw : Lt.Law) : PySem.Challenge.rw_latesights_k54_whole_runs_of_houses_side.Holds := by
  w_on; o_law
  refine HandSHeadRun.head_any (r := OpenLaw.row PySem.Challenge.rw_latesights_k54_whole_runs_of_houses_side) (q := view (OpenLaw.row PySem.Challenge.rw_latesights_k54_whole_runs_of_houses_side).prog [97]) (H := Lt.hkH) (ob := Lt.obH) (M := 4000) (loose := Lt.nmH) (d := HandSHeadRun.topDef (OpenLaw.row PySem.Challenge.rw_latesights_k54_whole_runs_of_houses_side).prog 97) (kwd := []) Lt.obH_eq
    (by kernel_rfl) (fun s => by kernel_rfl) Lt.runH (by kernel_rfl) (by kernel_rfl) (by kernel_rfl) (by rfl) (by first | assumption | decide +kernel) (by decide +kernel) ⟨rfl, rfl, rfl, rfl, rfl, by decide +kernel⟩ ?hw ?hc
  case hw => w_witness2
  case hc =>
    refine L2.walk_ofE (l := PySem.Challenge.rw_latesights_k54_whole_runs_of_houses_side) (n := 63) (k := 24) (x := "_law_script") (CX := C8.CX0) rfl (by decide) (by kernel_rfl) ⟨rfl, by decide, by decide⟩ ?F (fun _ _ _ _ z => z)
    intro w mg fa h Y G hmg0
    obtain ⟨K, KX, c⟩ := Y
    have hmg : mg ("law" : PySem.Str) = some (.ref fa) := by
      have e : (HandSHeadRun.topDef (OpenLaw.row PySem.Challenge.rw_latesights_k54_whole_runs_of_houses_side).prog 97).name = ("law" : PySem.Str) := by kernel_rfl
      rw [← e]
      exact hmg0
    have hf := Lt.headF KX G c
    have h79 : Lt.tab[78]? = some ⟨97, "law", Lt.b78, Lt.n78⟩ := by rfl
    obtain ⟨f, fd, F, hm⟩ := hf.d _ (List.mem_of_getElem? h79)
    have e : fa = f := by
      have z := hmg.symm.trans hm
      cases z
      rfl
    subst e
    have ok := Lt.allE.mem _ (List.mem_of_getElem? h79)
    refine ⟨K, fd, Lt.spOf K 1 (Lt.FL 24 78), KX, fun s v => ?_, fun H a ns hl _ hS => ⟨rfl, none, [], [.scr ns], .p (.bl true), [], trivial, ⟨_, _, rfl, Lt.scr_rep hl hS, rfl⟩, hlaw ns hl, rfl, fun v H' A _ re => re.sl⟩, fun base hb hg => ?_⟩
    · have b := L2.FunD.bindsA (ps := ["_law_script"]) F (fun kV doc pm an cdv ct us hu => ok.b kV doc pm an cdv ct us hu)
      exact b s [v] rfl
    · have fx : Lt.Facts (PySem.Challenge.rw_latesights_k54_whole_runs_of_houses_side).prog w K mg base (Lt.FL 23) 23 := Lt.facts (Lt.headF KX G c) 23
      have q := Lt.df_ok F ok.c fx
      have eF : Lt.FL 24 78 = Lt.b78.run (Lt.FL 23) := by
        show (match Lt.tab[78]? with
          | some e => e.d.run (Lt.FL 23)
          | none => fun _ _ => none) = _
        rw [h79]
      rw [eF]
      exact q

set_option maxRecDepth 100000 in
set_option maxHeartbeats 0 in
theorem PySem.Challenge.cw_latesights_k54_whole_runs_of_houses_side_holds : PySem.Challenge.rw_latesights_k54_whole_runs_of_houses_side.Holds := by
  exact Lt.holds Lt.Mt.law_all
