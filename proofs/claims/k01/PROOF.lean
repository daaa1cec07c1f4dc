import PyProof.Rows.All
import Wide.All
import OpenK.AllK
import Wide.FinOn
import HandS.ForMost
import HandS.Gcd
import HandS.Wide
import HandS.Zip
import HandS.Rev
import HandS.TupAny
import HandS.Style
import HandS.IsInst
import KE.GoesMore
import HandS.Words
import HandS.Defaults
import HandS.Ends
import HandS.EndBits
import KE.KStateDown
import HandS.More
import HandS.WordsExc
import HandS.Head0
import HandS.Head1
import HandS.Head2
import HandS.Head3
import HandS.HeadEnd
import HandS.HeadHook1
import HandS.HeadHook2
import PySem.Challenge.RW_withinshapes_k01_points
set_option Elab.async false
set_option linter.all false
set_option maxRecDepth 100000
set_option maxHeartbeats 0
/-! A small language of pure data and a store of lists and dicts, and its evaluator. -/
namespace Pd
open PySem
/-! ### data, store -/
inductive D where
  | non | bl (b : Bool) | int (i : Int) | str (x : Str) | tup (xs : List D) | ref (n : Nat)
instance : Inhabited D := ⟨.non⟩
inductive SO where
  | lst (xs : List D) | frz (xs : List D) | dic (kvs : List (Str × D))
abbrev Sto := List SO
abbrev Env := List (Option D)
inductive Out (α : Type) where
  | ok (a : α) (S : Sto) | err (c : Nat) (fs : List D) (S : Sto) | bad
def Out.bind {α β : Type} : Out α → (α → Sto → Out β) → Out β
  | .ok a S, k => k a S
  | .err c fs S, _ => .err c fs S
  | .bad, _ => .bad
mutual
/-- no reference within -/
def pureD : D → Bool
  | .tup xs => pureDs xs
  | .ref _ => false
  | _ => true
def pureDs : List D → Bool
  | [] => true
  | x :: r => pureD x && pureDs r
end
/-! ### the data as the library names it -/
mutual
def dump (S : Sto) : Nat → D → Option PyData
  | _, .non => some .none
  | _, .bl b => some (.bool b)
  | _, .int i => some (.int i)
  | _, .str x => some (.str x)
  | 0, .tup _ => none
  | n + 1, .tup xs => (dumps S n xs).map .tuple
  | 0, .ref _ => none
  | n + 1, .ref a => match S[a]? with
    | some (.lst xs) => (dumps S n xs).map .list
    | some (.frz xs) => (dumps S n xs).map .list
    | _ => none
def dumps (S : Sto) : Nat → List D → Option (List PyData)
  | _, [] => some []
  | n, x :: r => match dump S n x with
    | some d => (dumps S n r).map (d :: ·)
    | none => none
end
/-! ### the language -/
inductive BOp where
  | add | sub | mul | fdiv | mod | pow
inductive COp where
  | eq | ne | lt | le | gt | ge | is | isnot | isin | notin
inductive Ty where
  | int | bool | str | list | tuple | dict
inductive Bi where
  | len | gcd | abs | max | min | int | list | tuple | repr | sum
/-- what is walked -/
inductive SK where
  | seq | range | enum | zip | rev
inductive Tg where
  | nm (i : Nat) | tp (ts : List Tg)
mutual
inductive IE where
  | slot (i : Nat)
  | cst (d : D)
  | glo (i : Nat)
  | tup (es : List IE)
  | lst (es : List IE)
  | dic (ks : List Str) (es : List IE)
  | bin (op : BOp) (a b : IE)
  | neg (a : IE)
  | not (a : IE)
  | and (es : List IE)
  | or (es : List IE)
  | cmp (op : COp) (a b : IE)
  | chain (op op' : COp) (a b c : IE)
  | ifx (t : IT) (a b : IE)
  | isi (a : IE) (ts : List Ty)
  | bi (f : Bi) (es : List IE)
  | call (f : Nat) (es : List IE)
  | callk (f : Nat) (es : List IE) (ks : List Nat) (ws : List IE)
  | idx (a i : IE)
  | slc (a : IE) (lo hi : Option IE)
  | back (a : IE)
  | append (a e : IE)
  | extend (a e : IE)
  | pop (a : IE)
  | lc (own : List Nat) (tg : Tg) (k : SK) (es : List IE) (cs : List IT) (e : IE)
/-- a test -/
inductive IT where
  | val (e : IE)
  | not (t : IT)
  | and (ts : List IT)
  | or (ts : List IT)
  | cmp (op : COp) (a b : IE)
  | chain (op op' : COp) (a b c : IE)
end
inductive IS where
  | set (t : Tg) (e : IE)
  | par (is : List Nat) (es : List IE)
  | setix (o i e : IE)
  | ex (e : IE)
  | ret (e : IE)
  | retN
  | iff (c : IT) (a b : List IS)
  | loop (tg : Tg) (k : SK) (es : List IE) (body : List IS)
  | whil (c : IT) (body : List IS)
  | pass | brk | cont | never
/-! ### operators -/
def binop : BOp → D → D → Sto → Out D
  | .add, .int i, .int j, S => .ok (.int (i + j)) S
  | .add, .tup a, .tup b, S => if a.length + b.length ≤ sizeLine then .ok (.tup (a ++ b)) S else .bad
  | .add, .ref a, .ref b, S => match S[a]?, S[b]? with
    | some (.lst x), some (.lst y) => if x.length + y.length ≤ sizeLine then .ok (.ref S.length) (S ++ [.lst (x ++ y)]) else .bad
    | _, _ => .bad
  | .sub, .int i, .int j, S => .ok (.int (i - j)) S
  | .mul, .int i, .int j, S => if i.natAbs.log2 + j.natAbs.log2 < 1000000 then .ok (.int (i * j)) S else .bad
  | .fdiv, .int i, .int j, S => if j ≠ 0 ∧ j.natAbs.log2 < 9000 then .ok (.int (i.fdiv j)) S else .bad
  | .mod, .int i, .int j, S => if j ≠ 0 then .ok (.int (i.fmod j)) S else .bad
  | .pow, .int i, .int j, S => if 0 ≤ j ∧ j ≤ 1000000 ∧ i.natAbs < 2 ^ 64 then .ok (.int (i ^ j.toNat)) S else .bad
  | _, _, _, _ => .bad
def isNone : D → Option Bool
  | .non => some true
  | .bl _ => some false
  | .int _ => some false
  | .str _ => some false
  | .tup _ => some false
  | .ref _ => some false
def eqD (S : Sto) (a b : D) : Option Bool := match a, b with
  | .int i, .int j => some (decide (i = j))
  | .str x, .str y => some (decide (x = y))
  | .bl x, .bl y => some (decide (x = y))
  | a, b => match dump S 60 a, dump S 60 b with
    | some p, some q => if SeqAt.shaped p && SeqAt.shaped q then some (PyData.eqv p q) else none
    | _, _ => none
def compOp : COp → D → D → Sto → Option Bool
  | .eq, a, b, S => eqD S a b
  | .ne, a, b, S => (eqD S a b).map (!·)
  | .lt, .int i, .int j, _ => some (decide (i < j))
  | .le, .int i, .int j, _ => some (decide (i ≤ j))
  | .gt, .int i, .int j, _ => some (decide (j < i))
  | .ge, .int i, .int j, _ => some (decide (j ≤ i))
  | .is, a, .non, _ => isNone a
  | .isnot, a, .non, _ => (isNone a).map (!·)
  | .is, .bl a, .bl b, _ => some (decide (a = b))
  | .isnot, .bl a, .bl b, _ => some (!decide (a = b))
  | _, _, _, _ => none
def Out.ofB (b : Option Bool) (S : Sto) : Out D := match b with
  | some b => .ok (.bl b) S
  | none => .bad
/-- the truth of a value -/
def truth (d : D) (S : Sto) : Option Bool := match d with
  | .bl b => some b
  | .int i => some (i != 0)
  | .non => some false
  | .tup xs => some (!xs.isEmpty)
  | .ref a => match S[a]? with
    | some (.lst xs) => some (!xs.isEmpty)
    | some (.frz xs) => some (!xs.isEmpty)
    | _ => none
  | _ => none
def tyOf (S : Sto) : D → Option Ty
  | .non => none
  | .bl _ => some .bool
  | .int _ => some .int
  | .str _ => some .str
  | .tup _ => some .tuple
  | .ref a => match S[a]? with
    | some (.lst _) => some .list
    | some (.frz _) => some .list
    | some (.dic _) => some .dict
    | none => none
def Ty.sub : Ty → Ty → Bool
  | .int, .int => true
  | .bool, .bool => true
  | .bool, .int => true
  | .str, .str => true
  | .list, .list => true
  | .tuple, .tuple => true
  | .dict, .dict => true
  | _, _ => false
def isiD (d : D) (ts : List Ty) (S : Sto) : Option Bool := match d with
  | .non => some false
  | d => match tyOf S d with
    | some t => some (ts.any fun u => t.sub u)
    | none => none
def items (S : Sto) : D → Option (List D)
  | .tup xs => some xs
  | .ref a => match S[a]? with
    | some (.lst xs) => some xs
    | some (.frz xs) => some xs
    | _ => none
  | _ => none
/-- a tuple, or a list that is not locked -/
def rowW (S : Sto) : D → Option (List D)
  | .tup xs => some xs
  | .ref a => match S[a]? with
    | some (.lst xs) => some xs
    | _ => none
  | _ => none
def bLen : List D → Sto → Out D
  | [d], S => match d with
    | .str x => if x.length ≤ sizeLine then .ok (.int x.length) S else .bad
    | d => match items S d with
      | some xs => .ok (.int xs.length) S
      | none => .bad
  | _, _ => .bad
def bInt2 (f : Int → Int → Int) : List D → Sto → Out D
  | [.int i, .int j], S => .ok (.int (f i j)) S
  | _, _ => .bad
def bInt1 (f : Int → Int) : List D → Sto → Out D
  | [.int i], S => .ok (.int (f i)) S
  | _, _ => .bad
def bList : List D → Sto → Out D
  | [d], S => match items S d with
    | some xs => .ok (.ref S.length) (S ++ [.lst xs])
    | none => .bad
  | _, _ => .bad
def bTuple : List D → Sto → Out D
  | [d], S => match items S d with
    | some xs => .ok (.tup xs) S
    | none => .bad
  | _, _ => .bad
def bRepr : List D → Sto → Out D
  | [d], S => match dump S 60 d with
    | some p => if p.showable = true ∧ p.shown.length ≤ sizeLine then .ok (.str p.shown) S else .bad
    | none => .bad
  | _, _ => .bad
def gcdI (i j : Int) : Int := ((Nat.gcd i.natAbs j.natAbs : Nat) : Int)
def bifn : Bi → List D → Sto → Out D
  | .len => bLen
  | .gcd => bInt2 gcdI
  | .abs => bInt1 fun i => if i < 0 then -i else i
  | .max => bInt2 fun i j => if j > i then j else i
  | .min => bInt2 fun i j => if j < i then j else i
  | .int => bInt1 fun i => i
  | .list => bList
  | .tuple => bTuple
  | .repr => bRepr
  | .sum => fun _ _ => .bad
def dget (k : Str) : List (Str × D) → Option D
  | [] => none
  | (x, d) :: r => if x = k then some d else dget k r
def dput (k : Str) (d : D) : List (Str × D) → Option (List (Str × D))
  | [] => none
  | (x, e) :: r => if x = k then some ((x, d) :: r) else (dput k d r).map ((x, e) :: ·)
def index (d i : D) (S : Sto) : Out D := match d, i with
  | .tup xs, .int i => match L2.atI xs i with
    | some x => .ok x S
    | none => .bad
  | .ref a, .int i => match items S (.ref a) with
    | some xs => match L2.atI xs i with
      | some x => .ok x S
      | none => .bad
    | none => .bad
  | .ref a, .str k => match S[a]? with
    | some (.dic kvs) => match dget k kvs with
      | some x => .ok x S
      | none => .bad
    | _ => .bad
  | _, _ => .bad
def cutD (xs : List D) (lo hi : Option Int) : List D := (xs.drop (HT.sIx xs.length 0 lo)).take (HT.sIx xs.length xs.length hi - HT.sIx xs.length 0 lo)
def slice (d : D) (lo hi : Option Int) (S : Sto) : Out D := match d with
  | .tup xs => .ok (.tup (cutD xs lo hi)) S
  | .ref a => match items S (.ref a) with
    | some xs => .ok (.ref S.length) (S ++ [.lst (cutD xs lo hi)])
    | none => .bad
  | _ => .bad
/-- a list that may be written -/
def isL (S : Sto) : D → Bool
  | .ref a => match S[a]? with
    | some (.lst _) => true
    | _ => false
  | _ => false
/-- writes, not below lo -/
def write (lo : Nat) (a : Nat) (o : SO) (S : Sto) : Option Sto := if lo ≤ a then some (S.set a o) else none
def appendD (lo : Nat) (d e : D) (S : Sto) : Out D := match d with
  | .ref a => match S[a]? with
    | some (.lst xs) => if xs.length < sizeLine then (match write lo a (.lst (xs ++ [e])) S with
      | some S => .ok .non S
      | none => .bad) else .bad
    | _ => .bad
  | _ => .bad
def extendD (lo : Nat) (x y : D) (S : Sto) : Out D := match x, rowW S y with
  | .ref a, some ys => match S[a]? with
    | some (.lst xs) => if (xs ++ ys).length ≤ sizeLine then (match write lo a (.lst (xs ++ ys)) S with
      | some S => .ok .non S
      | none => .bad) else .bad
    | _ => .bad
  | _, _ => .bad
def popD (lo : Nat) (x : D) (S : Sto) : Out D := match x with
  | .ref a => match S[a]? with
    | some (.lst xs) => match xs.getLast? with
      | some d => match write lo a (.lst xs.dropLast) S with
        | some S => .ok d S
        | none => .bad
      | none => .bad
    | _ => .bad
  | _ => .bad
def setixD (lo : Nat) (o i e : D) (S : Sto) : Option Sto := match o, i with
  | .ref a, .int i => match S[a]? with
    | some (.lst xs) => match L2.ixN xs.length i with
      | some j => write lo a (.lst (xs.set j e)) S
      | none => none
    | _ => none
  | .ref a, .str k => match S[a]? with
    | some (.dic kvs) => if kvs.length < sizeLine then (match dput k e kvs with
      | some kvs => write lo a (.dic kvs) S
      | none => none) else none
    | _ => none
  | _, _ => none
/-! ### what is walked -/
inductive Src where
  | tup (xs : List D)
  | lst (a : Nat)
  | rng (lo : Int) (n : Nat)
  | enum (a : Src)
  | zip (a b : Src)
  | rev (a : Nat) (n : Nat)
  | revT (xs : List D)
def seqSrc (S : Sto) : D → Option Src
  | .tup xs => some (.tup xs)
  | .ref a => match items S (.ref a) with
    | some _ => some (.lst a)
    | none => none
  | _ => none
def inB (i : Int) : Bool := decide (-(2 ^ 62) ≤ i) && decide (i < 2 ^ 62)
def mkSrc (S : Sto) : SK → List D → Option Src
  | .seq, [d] => seqSrc S d
  | .range, [.int j] => if inB j then some (.rng 0 j.toNat) else none
  | .range, [.int i, .int j] => if inB i && inB j then some (.rng i (j - i).toNat) else none
  | .enum, [d] => (seqSrc S d).map .enum
  | .zip, [.tup x, .tup y] => some (.zip (.tup x) (.tup y))
  | .zip, [.ref a, .ref b] => match items S (.ref a), items S (.ref b) with
    | some _, some _ => some (.zip (.lst a) (.lst b))
    | _, _ => none
  | .rev, [.tup xs] => some (.revT xs)
  | .rev, [.ref a] => (items S (.ref a)).map fun xs => .rev a xs.length
  | _, _ => none
/-- at turn i: none, it can't be told; some none, the end; some some d, the next -/
def Src.item (S : Sto) : Src → Nat → Option (Option D)
  | .tup xs, i => some xs[i]?
  | .lst a, i => (items S (.ref a)).map fun xs => xs[i]?
  | .rng lo n, i => some (if i < n then some (.int (lo + (i : Int))) else none)
  | .enum s, i => match s.item S i with
    | some (some d) => some (some (.tup [.int (i : Int), d]))
    | r => r
  | .zip s t, i => match s.item S i, t.item S i with
    | some (some d), some (some e) => some (some (.tup [d, e]))
    | some none, some _ => some none
    | some _, some none => some none
    | _, _ => none
  | .rev a n, i => if i < n then (match items S (.ref a) with
      | some xs => match xs[n - 1 - i]? with
        | some d => some (some d)
        | none => none
      | none => none) else some none
  | .revT xs, i => if i < xs.length then some xs[xs.length - 1 - i]? else some none
def Src.size (S : Sto) : Src → Nat
  | .tup xs => xs.length
  | .lst a => match items S (.ref a) with
    | some xs => xs.length
    | none => 0
  | .rng _ n => n
  | .enum s => s.size S
  | .zip s t => min (s.size S) (t.size S)
  | .rev _ n => n
  | .revT xs => xs.length
/-! ### targets, frames -/
def put (σ : Env) (i : Nat) (d : D) : Option Env := if i < σ.length then some (σ.set i (some d)) else none
def puts (σ : Env) : List Nat → List D → Option Env
  | [], [] => some σ
  | i :: is, d :: ds => match put σ i d with
    | some σ => puts σ is ds
    | none => none
  | _, _ => none
mutual
def asg : Tg → D → Env → Option Env
  | .nm i, d, σ => put σ i d
  | .tp ts, .tup ds, σ => asgs ts ds σ
  | .tp _, _, _ => none
def asgs : List Tg → List D → Env → Option Env
  | [], [], σ => some σ
  | t :: ts, d :: ds, σ => match asg t d σ with
    | some σ => asgs ts ds σ
    | none => none
  | _, _, _ => none
end
def wipeE (σ : Env) : List Nat → Env
  | [] => σ
  | v :: vs => (wipeE σ vs).set v none
inductive Fl where
  | nx (σ : Env) | rt (d : D) | bk (σ : Env) | ct (σ : Env)
/-! ### loops -/
def forL (src : Src) (body : D → Env → Sto → Out Fl) : Nat → Nat → Env → Sto → Out Fl
  | 0, _, _, _ => .bad
  | m + 1, i, σ, S => match src.item S i with
    | none => .bad
    | some none => .ok (.nx σ) S
    | some (some d) => (body d σ S).bind fun fl S => match fl with
      | .nx σ => forL src body m (i + 1) σ S
      | .ct σ => forL src body m (i + 1) σ S
      | .bk σ => .ok (.nx σ) S
      | .rt d => .ok (.rt d) S
def whileL (c : Env → Sto → Out Bool) (body : Env → Sto → Out Fl) : Nat → Env → Sto → Out Fl
  | 0, _, _ => .bad
  | m + 1, σ, S => (c σ S).bind fun b S => if b = true then ((body σ S).bind fun fl S => match fl with
      | .nx σ => whileL c body m σ S
      | .ct σ => whileL c body m σ S
      | .bk σ => .ok (.nx σ) S
      | .rt d => .ok (.rt d) S) else .ok (.nx σ) S
/-- a comprehension's turns; n: the new list -/
def lcL (src : Src) (n : Nat) (turn : D → Sto → Out (Option D)) : Nat → Nat → Sto → Out D
  | 0, _, _ => .bad
  | m + 1, i, S => match src.item S i with
    | none => .bad
    | some none => .ok (.ref n) S
    | some (some d) => (turn d S).bind fun y S => match y with
      | none => lcL src n turn m (i + 1) S
      | some y => match S[n]? with
        | some (.lst acc) => if acc.length < sizeLine then lcL src n turn m (i + 1) (S.set n (.lst (acc ++ [y]))) else .bad
        | _ => .bad
def whileMax : Nat := 1152921504606846976
/-- what is called: the def's number, the barrier, the arguments -/
abbrev Cal := Nat → Nat → List D → Sto → Out D
structure Cx where
  cal : Cal
  glo : List D
  np : Nat → Nat
  lo : Nat
/-- keyword calls: the arguments in the parameters' order -/
def fill {α : Type} (pos : List α) (ks : List Nat) (ws : List α) : Nat → Nat → Option (List α)
  | 0, _ => some []
  | m + 1, p => match (if p < pos.length then pos[p]? else (ks.zip ws).lookup p) with
    | some d => (fill pos ks ws m (p + 1)).map (d :: ·)
    | none => none
def optI : Option D → Option (Option Int)
  | none => some none
  | some (.int i) => some (some i)
  | _ => none
mutual
def evE (C : Cx) : IE → Env → Sto → Out D
  | .slot i, σ, S => match σ[i]? with
    | some (some d) => .ok d S
    | _ => .bad
  | .cst d, _, S => .ok d S
  | .glo i, _, S => match C.glo[i]? with
    | some d => .ok d S
    | none => .bad
  | .tup es, σ, S => (evs C es σ S).bind fun ds S => if ds.length ≤ sizeLine then .ok (.tup ds) S else .bad
  | .lst es, σ, S => (evs C es σ S).bind fun ds S => if ds.length ≤ sizeLine then .ok (.ref S.length) (S ++ [.lst ds]) else .bad
  | .dic ks es, σ, S => (evs C es σ (S ++ [.dic []])).bind fun ds S' => match S'[S.length]? with
    | some (.dic []) => if ks.length = ds.length then .ok (.ref S.length) (S'.set S.length (.dic (ks.zip ds))) else .bad
    | _ => .bad
  | .bin op a b, σ, S => (evE C a σ S).bind fun x S => (evE C b σ S).bind fun y S => binop op x y S
  | .neg a, σ, S => (evE C a σ S).bind fun x S => match x with
    | .int i => .ok (.int (-i)) S
    | _ => .bad
  | .not a, σ, S => (evE C a σ S).bind fun d S => match truth d S with
    | some b => .ok (.bl (!b)) S
    | none => .bad
  | .and es, σ, S => evAnd C es σ S
  | .or es, σ, S => evOr C es σ S
  | .cmp op a b, σ, S => (evE C a σ S).bind fun x S => (evE C b σ S).bind fun y S => .ofB (compOp op x y S) S
  | .chain op op' a b c, σ, S => (evE C a σ S).bind fun x S => (evE C b σ S).bind fun y S => match compOp op x y S with
    | some true => (evE C c σ S).bind fun z S => .ofB (compOp op' y z S) S
    | some false => .ok (.bl false) S
    | none => .bad
  | .ifx t a b, σ, S => (evT C t σ S).bind fun k S => if k = true then evE C a σ S else evE C b σ S
  | .isi a ts, σ, S => (evE C a σ S).bind fun x S => .ofB (isiD x ts S) S
  | .bi f es, σ, S => (evs C es σ S).bind fun ds S => bifn f ds S
  | .call f es, σ, S => (evs C es σ S).bind fun ds S => C.cal f C.lo ds S
  | .callk f es ks ws, σ, S => (evs C es σ S).bind fun ds S => (evs C ws σ S).bind fun us S => match fill ds ks us (C.np f) 0 with
    | some xs => C.cal f C.lo xs S
    | none => .bad
  | .idx a i, σ, S => (evE C a σ S).bind fun x S => (evE C i σ S).bind fun y S => index x y S
  | .slc a lo hi, σ, S => (evE C a σ S).bind fun x S => (evO C lo σ S).bind fun l S => (evO C hi σ S).bind fun h S => slice x l h S
  | .back a, σ, S => (evE C a σ S).bind fun x S => match x with
    | .ref a => match items S (.ref a) with
      | some xs => .ok (.ref S.length) (S ++ [.lst xs.reverse])
      | none => .bad
    | _ => .bad
  | .append a e, σ, S => (evE C a σ S).bind fun x S => if isL S x = true then (evE C e σ S).bind fun y S => appendD C.lo x y S else .bad
  | .extend a e, σ, S => (evE C a σ S).bind fun x S => if isL S x = true then (evE C e σ S).bind fun y S => extendD C.lo x y S else .bad
  | .pop a, σ, S => (evE C a σ S).bind fun x S => popD C.lo x S
  | .lc own tg k es cs e, σ, S => (evs C es σ S).bind fun ds S => match mkSrc S k ds with
    | some src => lcL src S.length (fun d S => match asg tg d (wipeE σ own) with
        | some σ => (evC C cs σ S).bind fun b S => if b = true then (evE C e σ S).bind fun y S => .ok (some y) S else .ok none S
        | none => .bad) (src.size S + 1) 0 (S ++ [.lst []])
    | none => .bad
def evs (C : Cx) : List IE → Env → Sto → Out (List D)
  | [], _, S => .ok [] S
  | e :: r, σ, S => (evE C e σ S).bind fun d S => (evs C r σ S).bind fun ds S => .ok (d :: ds) S
def evO (C : Cx) : Option IE → Env → Sto → Out (Option Int)
  | none, _, S => .ok none S
  | some e, σ, S => (evE C e σ S).bind fun d S => match d with
    | .int i => .ok (some i) S
    | _ => .bad
/-- a test -/
def evT (C : Cx) : IT → Env → Sto → Out Bool
  | .val e, σ, S => (evE C e σ S).bind fun d S => match truth d S with
    | some b => .ok b S
    | none => .bad
  | .not a, σ, S => (evT C a σ S).bind fun b S => .ok (!b) S
  | .and es, σ, S => evAndT C es σ S
  | .or es, σ, S => evOrT C es σ S
  | .cmp op a b, σ, S => (evE C a σ S).bind fun x S => (evE C b σ S).bind fun y S => match compOp op x y S with
    | some k => .ok k S
    | none => .bad
  | .chain op op' a b c, σ, S => (evE C a σ S).bind fun x S => (evE C b σ S).bind fun y S => match compOp op x y S with
    | some true => (evE C c σ S).bind fun z S => (match compOp op' y z S with
      | some k => .ok k S
      | none => .bad)
    | some false => .ok false S
    | none => .bad
def evAnd (C : Cx) : List IE → Env → Sto → Out D
  | [], _, _ => .bad
  | [e], σ, S => evE C e σ S
  | e :: r, σ, S => (evE C e σ S).bind fun d S => match d with
    | .bl true => evAnd C r σ S
    | .bl false => .ok (.bl false) S
    | _ => .bad
def evOr (C : Cx) : List IE → Env → Sto → Out D
  | [], _, _ => .bad
  | [e], σ, S => evE C e σ S
  | e :: r, σ, S => (evE C e σ S).bind fun d S => match d with
    | .bl false => evOr C r σ S
    | .bl true => .ok (.bl true) S
    | _ => .bad
def evAndT (C : Cx) : List IT → Env → Sto → Out Bool
  | [], _, _ => .bad
  | [e], σ, S => evT C e σ S
  | e :: r, σ, S => (evT C e σ S).bind fun b S => if b = true then evAndT C r σ S else .ok false S
def evOrT (C : Cx) : List IT → Env → Sto → Out Bool
  | [], _, _ => .bad
  | [e], σ, S => evT C e σ S
  | e :: r, σ, S => (evT C e σ S).bind fun b S => if b = true then .ok true S else evOrT C r σ S
/-- a comprehension's conditions -/
def evC (C : Cx) : List IT → Env → Sto → Out Bool
  | [], _, S => .ok true S
  | e :: r, σ, S => (evT C e σ S).bind fun b S => if b = true then evC C r σ S else .ok false S
end
mutual
def evS (C : Cx) : IS → Env → Sto → Out Fl
  | .set t e, σ, S => (evE C e σ S).bind fun d S => match asg t d σ with
    | some σ => .ok (.nx σ) S
    | none => .bad
  | .par is es, σ, S => (evs C es σ S).bind fun ds S => match puts σ is ds with
    | some σ => .ok (.nx σ) S
    | none => .bad
  | .setix o i e, σ, S => (evE C e σ S).bind fun z S => (evE C o σ S).bind fun x S => (evE C i σ S).bind fun y S => match setixD C.lo x y z S with
    | some S => .ok (.nx σ) S
    | none => .bad
  | .ex e, σ, S => (evE C e σ S).bind fun _ S => .ok (.nx σ) S
  | .ret e, σ, S => (evE C e σ S).bind fun d S => .ok (.rt d) S
  | .retN, _, S => .ok (.rt .non) S
  | .iff c a b, σ, S => (evT C c σ S).bind fun k S => if k = true then evB C a σ S else evB C b σ S
  | .loop tg k es body, σ, S => (evs C es σ S).bind fun ds S => match mkSrc S k ds with
    | some src => forL src (fun d σ S => match asg tg d σ with
        | some σ => evB C body σ S
        | none => .bad) (src.size S + 1) 0 σ S
    | none => .bad
  | .whil c body, σ, S => whileL (evT C c) (evB C body) whileMax σ S
  | .pass, σ, S => .ok (.nx σ) S
  | .brk, σ, S => .ok (.bk σ) S
  | .cont, σ, S => .ok (.ct σ) S
  | .never, _, _ => .bad
def evB (C : Cx) : List IS → Env → Sto → Out Fl
  | [], σ, S => .ok (.nx σ) S
  | s :: r, σ, S => (evS C s σ S).bind fun fl S => match fl with
    | .nx σ => evB C r σ S
    | fl => .ok fl S
end
/-! ### defs -/
/-- np parameters, nv names in all, gc: nothing older is changed, and what is made goes but for the answer -/
structure Fn where
  np : Nat
  nv : Nat
  gc : Bool
  body : List IS
def pureSO : SO → Bool
  | .lst xs => pureDs xs
  | _ => false
/-- the answer alone is kept -/
def keep (gc : Bool) (n : Nat) (d : D) (S : Sto) : Out D := match gc with
  | false => .ok d S
  | true => if pureD d = true then .ok d (S.take n) else match d with
    | .ref a => match S[a]? with
      | some (.lst xs) => if n ≤ a ∧ pureDs xs = true then .ok (.ref n) (S.take n ++ [.lst xs]) else .bad
      | _ => .bad
    | _ => .bad
def runFn (C : Cx) (f : Fn) (ds : List D) (S : Sto) : Out D :=
  if ds.length = f.np then
    (evB { C with lo := if f.gc = true then S.length else C.lo } f.body (ds.map some ++ List.replicate (f.nv - f.np) none) S).bind fun fl S' => match fl with
      | .nx _ => keep f.gc S.length .non S'
      | .rt d => keep f.gc S.length d S'
      | _ => .bad
  else .bad
structure Tab where
  fns : List Fn
  glo : List D
/-- the def f, at most n calls deep -/
def run (T : Tab) : Nat → Cal
  | 0 => fun _ _ _ _ => .bad
  | n + 1 => fun f lo ds S => match T.fns[f]? with
    | some fn => runFn ⟨run T n, T.glo, fun g => match T.fns[g]? with
      | some fn => fn.np
      | none => 0, lo⟩ fn ds S
    | none => .bad
end Pd
/-! What the data stand for in the machine's heap. -/
namespace Pd
open PySem PySem.Spec PyProof.Rows L2
variable {K : PySem.W.Frag} {H H' : Hp} {ρ ρ' : List Addr}
mutual
def Rep (K : PySem.W.Frag) (H : Hp) (ρ : List Addr) : D → V → Prop
  | .non, v => v = .non
  | .bl b, v => v = .bl b
  | .int i, v => v = .int i
  | .str x, v => v = .str x
  | .tup ds, v => ∃ a vs, v = .ref a ∧ SqT K H a vs ∧ Reps K H ρ ds vs
  | .ref n, v => ∃ a, ρ[n]? = some a ∧ v = .ref a
def Reps (K : PySem.W.Frag) (H : Hp) (ρ : List Addr) : List D → List V → Prop
  | [], vs => vs = []
  | d :: ds, vs => ∃ v r, vs = v :: r ∧ Rep K H ρ d v ∧ Reps K H ρ ds r
end
/-- tuples and what is locked stay -/
def Ext (H H' : Hp) : Prop := (∀ a xs, H a = some (.tup xs) → H' a = some (.tup xs)) ∧ ∀ a o u, H a = some (.frz o u) → H' a = some (.frz o u)
theorem Ext.refl : Ext H H := ⟨fun _ _ e => e, fun _ _ _ e => e⟩
theorem Ext.trans {H'' : Hp} (a : Ext H H') (b : Ext H' H'') : Ext H H'' := ⟨fun x y e => b.1 x y (a.1 x y e), fun x y z e => b.2 x y z (a.2 x y z e)⟩
theorem Ext.new {p : Addr} {o : HO} (h : H p = none) : Ext H (upd H p o) :=
  ⟨fun a xs e => by rw [upd_ne (ne_of_none e h)]; exact e, fun a b c e => by rw [upd_ne (ne_of_none e h)]; exact e⟩
theorem Ext.write {p : Addr} {o u : HO} (h : H p = some u) (h1 : ∀ xs, u ≠ .tup xs) (h2 : ∀ a b, u ≠ .frz a b) : Ext H (upd H p o) :=
  ⟨fun a xs e => by rw [upd_ne (ne_of e h fun z => h1 _ z.symm)]; exact e, fun a b c e => by rw [upd_ne (ne_of e h fun z => h2 _ _ z.symm)]; exact e⟩
theorem sqT_ext {a : Addr} {xs : List V} (x : Ext H H') (h : SqT K H a xs) : SqT K H' a xs := by
  rcases h with (h | ⟨o, h⟩) | h
  · exact .inl (.inl (x.1 _ _ h))
  · exact .inl (.inr ⟨o, x.2 _ _ _ h⟩)
  · exact .inr h
/-- ρ' goes on from ρ -/
def Pre (ρ ρ' : List Addr) : Prop := ∀ (n : Nat) (a : Addr), ρ[n]? = some a → ρ'[n]? = some a
theorem Pre.refl : Pre ρ ρ := fun _ _ e => e
theorem Pre.trans {ρ'' : List Addr} (a : Pre ρ ρ') (b : Pre ρ' ρ'') : Pre ρ ρ'' := fun n x e => b n x (a n x e)
theorem Pre.app {τ : List Addr} : Pre ρ (ρ ++ τ) := fun n a e => by
  obtain ⟨h, _⟩ := List.getElem?_eq_some_iff.mp e
  rw [List.getElem?_append_left h]
  exact e
mutual
theorem Rep.mono (x : Ext H H') (p : Pre ρ ρ') : ∀ {d : D} {v : V}, Rep K H ρ d v → Rep K H' ρ' d v
  | .non, _, h => h
  | .bl _, _, h => h
  | .int _, _, h => h
  | .str _, _, h => h
  | .tup ds, v, h => by
    unfold Rep at h ⊢
    obtain ⟨a, vs, e, s, r⟩ := h
    exact ⟨a, vs, e, sqT_ext x s, Reps.mono x p r⟩
  | .ref n, v, h => by
    unfold Rep at h ⊢
    obtain ⟨a, e, q⟩ := h
    exact ⟨a, p n a e, q⟩
theorem Reps.mono (x : Ext H H') (p : Pre ρ ρ') : ∀ {ds : List D} {vs : List V}, Reps K H ρ ds vs → Reps K H' ρ' ds vs
  | [], _, h => h
  | d :: ds, vs, h => by
    unfold Reps at h ⊢
    obtain ⟨v, r, e, h1, h2⟩ := h
    exact ⟨v, r, e, Rep.mono x p h1, Reps.mono x p h2⟩
end
theorem Reps.len : ∀ {ds : List D} {vs : List V}, Reps K H ρ ds vs → vs.length = ds.length
  | [], _, h => by unfold Reps at h; subst h; rfl
  | d :: ds, vs, h => by
    unfold Reps at h
    obtain ⟨v, r, rfl, _, h2⟩ := h
    rw [List.length_cons, List.length_cons, Reps.len h2]
theorem Reps.nil : Reps K H ρ [] [] := by unfold Reps; rfl
theorem Reps.cons {d : D} {v : V} {ds : List D} {vs : List V} (h : Rep K H ρ d v) (r : Reps K H ρ ds vs) : Reps K H ρ (d :: ds) (v :: vs) := by unfold Reps; exact ⟨v, vs, rfl, h, r⟩
theorem Reps.get : ∀ {ds : List D} {vs : List V} {i : Nat} {d : D}, Reps K H ρ ds vs → ds[i]? = some d → ∃ v, vs[i]? = some v ∧ Rep K H ρ d v
  | [], _, _, _, _, e => by simp at e
  | d :: ds, vs, 0, e, h, he => by
    unfold Reps at h
    obtain ⟨v, r, rfl, h1, _⟩ := h
    simp at he
    subst he
    exact ⟨v, rfl, h1⟩
  | d :: ds, vs, i + 1, e, h, he => by
    unfold Reps at h
    obtain ⟨v, r, rfl, _, h2⟩ := h
    obtain ⟨w, e1, e2⟩ := Reps.get (i := i) h2 (by simpa using he)
    exact ⟨w, by simpa using e1, e2⟩
theorem Reps.app : ∀ {ds es : List D} {vs ws : List V}, Reps K H ρ ds vs → Reps K H ρ es ws → Reps K H ρ (ds ++ es) (vs ++ ws)
  | [], _, _, _, h, g => by unfold Reps at h; subst h; exact g
  | d :: ds, es, vs, ws, h, g => by
    unfold Reps at h
    obtain ⟨v, r, rfl, h1, h2⟩ := h
    exact .cons h1 (Reps.app h2 g)
theorem Reps.one {d : D} {v : V} (h : Rep K H ρ d v) : Reps K H ρ [d] [v] := .cons h .nil
theorem Reps.drop : ∀ (n : Nat) {ds : List D} {vs : List V}, Reps K H ρ ds vs → Reps K H ρ (ds.drop n) (vs.drop n)
  | 0, _, _, h => h
  | n + 1, [], _, h => by unfold Reps at h; subst h; exact .nil
  | n + 1, d :: ds, vs, h => by
    unfold Reps at h
    obtain ⟨v, r, rfl, h1, h2⟩ := h
    exact Reps.drop n h2
theorem Reps.take : ∀ (n : Nat) {ds : List D} {vs : List V}, Reps K H ρ ds vs → Reps K H ρ (ds.take n) (vs.take n)
  | 0, _, _, h => by rw [List.take_zero, List.take_zero]; exact .nil
  | n + 1, [], _, h => by unfold Reps at h; subst h; exact .nil
  | n + 1, d :: ds, vs, h => by
    unfold Reps at h
    obtain ⟨v, r, rfl, h1, h2⟩ := h
    exact .cons h1 (Reps.take n h2)
theorem Reps.reverse : ∀ {ds : List D} {vs : List V}, Reps K H ρ ds vs → Reps K H ρ ds.reverse vs.reverse
  | [], _, h => by unfold Reps at h; subst h; exact .nil
  | d :: ds, vs, h => by
    unfold Reps at h
    obtain ⟨v, r, rfl, h1, h2⟩ := h
    rw [List.reverse_cons, List.reverse_cons]
    exact (Reps.reverse h2).app (.one h1)
theorem Reps.set : ∀ {ds : List D} {vs : List V} (i : Nat) {d : D} {v : V}, Reps K H ρ ds vs → Rep K H ρ d v → Reps K H ρ (ds.set i d) (vs.set i v)
  | [], _, _, _, _, h, _ => by unfold Reps at h; subst h; exact .nil
  | _ :: _, vs, 0, _, _, h, g => by
    unfold Reps at h
    obtain ⟨v, r, rfl, _, h2⟩ := h
    exact .cons g h2
  | _ :: _, vs, i + 1, _, _, h, g => by
    unfold Reps at h
    obtain ⟨v, r, rfl, h1, h2⟩ := h
    exact .cons h1 (Reps.set i h2 g)
theorem Reps.dropLast {ds : List D} {vs : List V} (h : Reps K H ρ ds vs) : Reps K H ρ ds.dropLast vs.dropLast := by
  rw [List.dropLast_eq_take, List.dropLast_eq_take, h.len]
  exact h.take _
theorem Reps.cut {ds : List D} {vs : List V} (h : Reps K H ρ ds vs) (lo hi : Option Int) : Reps K H ρ (cutD ds lo hi) (cutV vs lo hi) := by
  unfold cutD cutV
  rw [h.len]
  exact (h.drop _).take _
theorem Reps.at_ {ds : List D} {vs : List V} {i : Int} {d : D} (h : Reps K H ρ ds vs) (e : atI ds i = some d) : ∃ v, atI vs i = some v ∧ Rep K H ρ d v := by
  unfold atI at e ⊢
  rw [h.len]
  cases q : ixN ds.length i with
  | none => rw [q] at e; cases e
  | some j =>
    rw [q] at e
    obtain ⟨v, e1, e2⟩ := h.get (show ds[j]? = some d from e)
    exact ⟨v, e1, e2⟩
/-! ### the store -/
/-- the entries of a dict -/
def RepK (K : PySem.W.Frag) (H : Hp) (ρ : List Addr) : List (Str × D) → List (Key × V) → Prop
  | [], kvs => kvs = []
  | (x, d) :: r, kvs => ∃ v s, kvs = (Sum.inr x, v) :: s ∧ Rep K H ρ d v ∧ RepK K H ρ r s
theorem RepK.mono (x : Ext H H') (p : Pre ρ ρ') : ∀ {ds : List (Str × D)} {vs : List (Key × V)}, RepK K H ρ ds vs → RepK K H' ρ' ds vs
  | [], _, h => h
  | (y, d) :: ds, vs, h => by
    obtain ⟨v, r, e, h1, h2⟩ := h
    exact ⟨v, r, e, h1.mono x p, RepK.mono x p h2⟩
theorem RepK.len : ∀ {ds : List (Str × D)} {vs : List (Key × V)}, RepK K H ρ ds vs → vs.length = ds.length
  | [], _, h => by unfold RepK at h; subst h; rfl
  | (y, d) :: ds, vs, h => by
    obtain ⟨v, r, rfl, h1, h2⟩ := h
    rw [List.length_cons, List.length_cons, RepK.len h2]
/-- a locked list: the script as it is handed in, tracked or one of the module's objects -/
def FrzL (K : PySem.W.Frag) (H : Hp) (a : Addr) (xs : List V) : Prop := (∃ o, H a = some (.frz o (.lst xs))) ∨
    ∃ (o : Obj) (its : Array Value) (n : Nat), K.lookup a = some o ∧ o.cls = .type "list" ∧ o.dict = none ∧ o.data = .seq its n ∧ its.size ≤ sizeLine ∧ Vals xs its.toList
theorem FrzL.sq {a : Addr} {xs : List V} (h : FrzL K H a xs) : SqL K H a xs := by
  rcases h with ⟨o, h⟩ | h
  · exact .inl (.inr ⟨o, h⟩)
  · exact .inr h
theorem FrzL.mono {a : Addr} {xs : List V} (x : Ext H H') (h : FrzL K H a xs) : FrzL K H' a xs := by
  rcases h with ⟨o, h⟩ | h
  · exact .inl ⟨o, x.2 _ _ _ h⟩
  · exact .inr h
def RepO (K : PySem.W.Frag) (H : Hp) (ρ : List Addr) : SO → Addr → Prop
  | .lst ds, a => ∃ vs, H a = some (.lst vs) ∧ Reps K H ρ ds vs
  | .frz ds, a => ∃ vs, FrzL K H a vs ∧ Reps K H ρ ds vs
  | .dic kvs, a => ∃ vs, H a = some (.dK vs) ∧ RepK K H ρ kvs vs ∧ (kvs.map (·.1)).Nodup
structure RepS (K : PySem.W.Frag) (H : Hp) (ρ : List Addr) (S : Sto) : Prop where
  len : ρ.length = S.length
  nd : ∀ (i j : Nat) (a : Addr), ρ[i]? = some a → ρ[j]? = some a → i = j ∨ (∃ ds, S[i]? = some (.frz ds)) ∨ ∃ ds, S[j]? = some (.frz ds)
  obj : ∀ (n : Nat) (so : SO) (a : Addr), S[n]? = some so → ρ[n]? = some a → RepO K H ρ so a
theorem RepO.some {so : SO} {a : Addr} (h : RepO K H ρ so a) : (∃ o, H a = some o) ∨ ∃ ds, so = .frz ds := by
  cases so with
  | lst ds => obtain ⟨vs, e, _⟩ := h; exact .inl ⟨_, e⟩
  | frz ds => exact .inr ⟨ds, rfl⟩
  | dic ds => obtain ⟨vs, e, _⟩ := h; exact .inl ⟨_, e⟩
theorem RepS.at_ {S : Sto} (r : RepS K H ρ S) {n : Nat} {so : SO} (e : S[n]? = some so) : ∃ a, ρ[n]? = some a ∧ RepO K H ρ so a := by
  obtain ⟨h, _⟩ := List.getElem?_eq_some_iff.mp e
  have h2 : n < ρ.length := by rw [r.len]; exact h
  exact ⟨ρ[n], List.getElem?_eq_getElem h2, r.obj n so _ e (List.getElem?_eq_getElem h2)⟩
theorem RepS.fresh {S : Sto} (r : RepS K H ρ S) {p : Addr} (h : H p = none) {n : Nat} (e : ρ[n]? = some p) : ∃ ds, S[n]? = some (.frz ds) := by
  have h2 : n < S.length := by rw [← r.len]; exact (List.getElem?_eq_some_iff.mp e).1
  rcases (r.obj n _ _ (List.getElem?_eq_getElem h2) e).some with ⟨o, q⟩ | ⟨ds, q⟩
  · rw [h] at q; cases q
  · exact ⟨ds, by rw [List.getElem?_eq_getElem h2, q]⟩
/-- an object of the store that is not written -/
theorem RepO.keep {so : SO} {a : Addr} (h : RepO K H ρ so a) (x : Ext H H') (p : Pre ρ ρ') (e : H' a = H a ∨ ∃ ds, so = .frz ds) : RepO K H' ρ' so a := by
  cases so with
  | lst ds => obtain ⟨vs, q, r⟩ := h; exact ⟨vs, (e.resolve_right fun ⟨_, z⟩ => nomatch z).trans q, r.mono x p⟩
  | frz ds => obtain ⟨vs, q, r⟩ := h; exact ⟨vs, q.mono x, r.mono x p⟩
  | dic ds => obtain ⟨vs, q, r, nd⟩ := h; exact ⟨vs, (e.resolve_right fun ⟨_, z⟩ => nomatch z).trans q, r.mono x p, nd⟩
theorem RepS.off {S : Sto} (r : RepS K H ρ S) {p : Addr} {o : HO} (h : H p = none) {n : Nat} {so : SO} {a : Addr} (e1 : S[n]? = some so) (e2 : ρ[n]? = some a) : upd H p o a = H a ∨ ∃ ds, so = .frz ds := by
  by_cases z : a = p
  · subst z
    obtain ⟨ds, q⟩ := r.fresh h e2
    rw [e1] at q
    cases q
    exact .inr ⟨ds, rfl⟩
  · exact .inl (upd_ne z)
/-- something is laid that the store does not hold -/
theorem RepS.lay {S : Sto} (r : RepS K H ρ S) {p : Addr} {o : HO} (h : H p = none) : RepS K (upd H p o) ρ S :=
  ⟨r.len, r.nd, fun n so a e1 e2 => (r.obj n so a e1 e2).keep (.new h) .refl (r.off h e1 e2)⟩
/-- a new object of the store -/
theorem RepS.new {S : Sto} (r : RepS K H ρ S) {p : Addr} {o : HO} {so : SO} (h : H p = none) (ho : RepO K (upd H p o) (ρ ++ [p]) so p) : RepS K (upd H p o) (ρ ++ [p]) (S ++ [so]) where
  len := by rw [List.length_append, List.length_append, r.len]; rfl
  nd := fun i j a ei ej => by
    have hi := (List.getElem?_eq_some_iff.mp ei).1
    have hj := (List.getElem?_eq_some_iff.mp ej).1
    rw [List.length_append] at hi hj
    by_cases ci : i < ρ.length
    · rw [List.getElem?_append_left ci] at ei
      by_cases cj : j < ρ.length
      · rw [List.getElem?_append_left cj] at ej
        rcases r.nd i j a ei ej with z | ⟨ds, z⟩ | ⟨ds, z⟩
        · exact .inl z
        · exact .inr (.inl ⟨ds, by rw [List.getElem?_append_left (by rw [← r.len]; exact ci)]; exact z⟩)
        · exact .inr (.inr ⟨ds, by rw [List.getElem?_append_left (by rw [← r.len]; exact cj)]; exact z⟩)
      · rw [List.getElem?_append_right (Nat.le_of_not_lt cj)] at ej
        have hz : j - ρ.length = 0 := by simp at hj; omega
        rw [hz] at ej
        have ea : p = a := by simpa using ej
        subst ea
        obtain ⟨ds, z⟩ := r.fresh h ei
        exact .inr (.inl ⟨ds, by rw [List.getElem?_append_left (by rw [← r.len]; exact ci)]; exact z⟩)
    · rw [List.getElem?_append_right (Nat.le_of_not_lt ci)] at ei
      have hz : i - ρ.length = 0 := by simp at hi; omega
      rw [hz] at ei
      have ea : p = a := by simpa using ei
      subst ea
      by_cases cj : j < ρ.length
      · rw [List.getElem?_append_left cj] at ej
        obtain ⟨ds, z⟩ := r.fresh h ej
        exact .inr (.inr ⟨ds, by rw [List.getElem?_append_left (by rw [← r.len]; exact cj)]; exact z⟩)
      · exact .inl (by simp at hi hj; omega)
  obj := fun n t a e1 e2 => by
    by_cases hn : n < S.length
    · rw [List.getElem?_append_left hn] at e1
      have hn2 : n < ρ.length := by rw [r.len]; exact hn
      rw [List.getElem?_append_left hn2] at e2
      exact (r.obj n t a e1 e2).keep (.new h) .app (r.off h e1 e2)
    · have hlt : n < (S ++ [so]).length := (List.getElem?_eq_some_iff.mp e1).1
      rw [List.length_append] at hlt
      have e : n = S.length := by simp at hlt; omega
      subst e
      rw [List.getElem?_append_right (Nat.le_refl _), Nat.sub_self] at e1
      rw [← r.len, List.getElem?_append_right (Nat.le_refl _), Nat.sub_self] at e2
      simp at e1 e2
      subst e1 e2
      exact ho
/-- an object of the store is written -/
theorem RepS.set {S : Sto} (r : RepS K H ρ S) {n : Nat} {a : Addr} {o u : HO} {so : SO} (hz : ∀ ds, S[n]? ≠ some (.frz ds)) (ha : ρ[n]? = some a) (hu : H a = some u) (h1 : ∀ xs, u ≠ .tup xs) (h2 : ∀ b c, u ≠ .frz b c) (ho : RepO K (upd H a o) ρ so a) :
    RepS K (upd H a o) ρ (S.set n so) where
  len := by rw [List.length_set]; exact r.len
  nd := fun i j b ei ej => by
    have fz : ∀ (i : Nat) (ds : List D), S[i]? = some (SO.frz ds) → (S.set n so)[i]? = some (SO.frz ds) := fun i ds z => by
      have : n ≠ i := fun q => hz ds (q ▸ z)
      rw [List.getElem?_set_ne this]
      exact z
    rcases r.nd i j b ei ej with z | ⟨ds, z⟩ | ⟨ds, z⟩
    · exact .inl z
    · exact .inr (.inl ⟨ds, fz i ds z⟩)
    · exact .inr (.inr ⟨ds, fz j ds z⟩)
  obj := fun m t b e1 e2 => by
    by_cases hm : m = n
    · subst hm
      rw [ha] at e2
      cases e2
      have hlt : m < S.length := by have := (List.getElem?_eq_some_iff.mp e1).1; rw [List.length_set] at this; exact this
      rw [List.getElem?_set_self hlt] at e1
      cases e1
      exact ho
    · rw [List.getElem?_set_ne (Ne.symm hm)] at e1
      refine (r.obj m t b e1 e2).keep (.write hu h1 h2) .refl ?_
      by_cases z : b = a
      · subst z
        rcases r.nd m n b e2 ha with z | ⟨ds, z⟩ | ⟨ds, z⟩
        · exact absurd z hm
        · rw [e1] at z
          cases z
          exact .inr ⟨ds, rfl⟩
        · exact absurd z (hz ds)
      · exact .inl (upd_ne z)
/-- what is read as a row -/
theorem RepS.items {S : Sto} (r : RepS K H ρ S) {d : D} {ds : List D} {v : V} (e : items S d = some ds) (h : Rep K H ρ d v) : ∃ a vs, v = .ref a ∧ Reps K H ρ ds vs ∧ ((∃ n, d = .ref n ∧ SqL K H a vs) ∨ (d = .tup ds ∧ SqT K H a vs)) := by
  cases d with
  | tup xs =>
    unfold Rep at h
    obtain ⟨a, vs, e1, s, q⟩ := h
    have e2 : xs = ds := Option.some.inj e
    subst e2
    exact ⟨a, vs, e1, q, .inr ⟨rfl, s⟩⟩
  | ref n =>
    unfold Rep at h
    obtain ⟨a, e1, e2⟩ := h
    cases q : S[n]? with
    | none => simp only [Pd.items, q] at e; cases e
    | some so =>
      have ho := r.obj n so a q e1
      cases so with
      | lst xs =>
        simp only [Pd.items, q] at e
        cases e
        obtain ⟨vs, z, y⟩ := ho
        exact ⟨a, vs, e2, y, .inl ⟨n, rfl, .of z⟩⟩
      | frz xs =>
        simp only [Pd.items, q] at e
        cases e
        obtain ⟨vs, z, y⟩ := ho
        exact ⟨a, vs, e2, y, .inl ⟨n, rfl, z.sq⟩⟩
      | dic kvs => simp only [Pd.items, q] at e; cases e
  | _ => cases e
/-! ### frames -/
/-- env tells of σ -/
def RepE (K : PySem.W.Frag) (H : Hp) (ρ : List Addr) (env : Env) (σ : L2.St) : Prop := env.length = σ.length ∧ ∀ (i : Nat) (d : D), env[i]? = some (some d) → ∃ v, σ[i]? = some (some v) ∧ Rep K H ρ d v
theorem RepE.mono {env : Env} {σ : L2.St} (h : RepE K H ρ env σ) (x : Ext H H') (p : Pre ρ ρ') : RepE K H' ρ' env σ := ⟨h.1, fun i d e => let ⟨v, e1, e2⟩ := h.2 i d e; ⟨v, e1, e2.mono x p⟩⟩
theorem RepE.put {env env' : Env} {σ : L2.St} {i : Nat} {d : D} {v : V} (h : RepE K H ρ env σ) (e : put env i d = some env') (r : Rep K H ρ d v) : RepE K H ρ env' (σ.set i (some v)) := by
  unfold Pd.put at e
  split at e
  · cases e
    rename_i hi
    refine ⟨by rw [List.length_set, List.length_set]; exact h.1, fun j d' e' => ?_⟩
    by_cases hj : j = i
    · subst hj
      rw [List.getElem?_set_self hi] at e'
      cases e'
      exact ⟨v, List.getElem?_set_self (by rw [← h.1]; exact hi), r⟩
    · rw [List.getElem?_set_ne (Ne.symm hj)] at e'
      obtain ⟨w, e1, e2⟩ := h.2 j d' e'
      exact ⟨w, by rw [List.getElem?_set_ne (Ne.symm hj)]; exact e1, e2⟩
  · cases e
theorem wipeE_len (env : Env) : ∀ vs : List Nat, (wipeE env vs).length = env.length
  | [] => rfl
  | v :: vs => by unfold wipeE; rw [List.length_set, wipeE_len env vs]
theorem RepE.wipe {env : Env} {σ : L2.St} (h : RepE K H ρ env σ) : ∀ vs : List Nat, RepE K H ρ (wipeE env vs) (L2.wipe σ vs)
  | [] => h
  | v :: vs => by
    have ih := RepE.wipe h vs
    unfold wipeE L2.wipe
    refine ⟨by rw [List.length_set, List.length_set]; exact ih.1, fun j d e => ?_⟩
    by_cases hj : j = v
    · subst hj
      by_cases hlt : j < (wipeE env vs).length
      · rw [List.getElem?_set_self hlt] at e; cases e
      · rw [List.getElem?_eq_none (by rw [List.length_set]; omega)] at e; cases e
    · rw [List.getElem?_set_ne (Ne.symm hj)] at e
      obtain ⟨w, e1, e2⟩ := ih.2 j d e
      exact ⟨w, by rw [List.getElem?_set_ne (Ne.symm hj)]; exact e1, e2⟩
theorem RepE.start {N : List Str} {ds : List D} {vs : List V} (h : Reps K H ρ ds vs) (hl : ds.length ≤ N.length) : RepE K H ρ (ds.map some ++ List.replicate (N.length - ds.length) none) (start N vs) := by
  unfold L2.start
  refine ⟨by simp [h.len], fun i d e => ?_⟩
  by_cases hi : i < ds.length
  · rw [List.getElem?_append_left (by simpa using hi), List.getElem?_map] at e
    cases q : ds[i]? with
    | none => rw [q] at e; cases e
    | some d' =>
      rw [q] at e
      cases e
      obtain ⟨v, e1, e2⟩ := h.get q
      refine ⟨v, ?_, e2⟩
      rw [List.getElem?_append_left (by rw [List.length_map, h.len]; exact hi), List.getElem?_map, e1]
      rfl
  · rw [List.getElem?_append_right (by simpa using hi), List.getElem?_replicate] at e
    split at e <;> cases e
/-! ### what is read of data -/
mutual
theorem dump_dp {S : Sto} (r : RepS K H ρ S) : ∀ (n : Nat) (d : D) (v : V) (p : PyData), dump S n d = some p → Rep K H ρ d v → Dp K H v p
  | n, .non, v, p, e, h => by
    unfold dump at e; unfold Rep at h; cases e; subst h; exact .non
  | n, .bl b, v, p, e, h => by
    unfold dump at e; unfold Rep at h; cases e; subst h; exact .bl b
  | n, .int b, v, p, e, h => by
    unfold dump at e; unfold Rep at h; cases e; subst h; exact .int b
  | n, .str b, v, p, e, h => by
    unfold dump at e; unfold Rep at h; cases e; subst h; exact .str b
  | 0, .tup ds, v, p, e, h => by unfold dump at e; cases e
  | n + 1, .tup ds, v, p, e, h => by
    unfold dump at e; unfold Rep at h
    obtain ⟨a, vs, rfl, s, q⟩ := h
    cases z : dumps S n ds with
    | none => rw [z] at e; cases e
    | some ps =>
      rw [z] at e
      cases e
      exact .tup s (dumps_dp r n ds vs ps z q)
  | 0, .ref m, v, p, e, h => by unfold dump at e; cases e
  | n + 1, .ref m, v, p, e, h => by
    unfold dump at e; unfold Rep at h
    obtain ⟨a, ha, rfl⟩ := h
    cases y : S[m]? with
    | none => rw [y] at e; cases e
    | some so =>
      have ho := r.obj m so a y ha
      rw [y] at e
      cases so with
      | lst ds =>
        obtain ⟨vs, z1, z2⟩ := ho
        cases z : dumps S n ds with
        | none => simp only [z] at e; cases e
        | some ps =>
          simp only [z] at e
          cases e
          exact .lst (.of z1) (dumps_dp r n ds vs ps z z2)
      | frz ds =>
        obtain ⟨vs, z1, z2⟩ := ho
        cases z : dumps S n ds with
        | none => simp only [z] at e; cases e
        | some ps =>
          simp only [z] at e
          cases e
          exact .lst z1.sq (dumps_dp r n ds vs ps z z2)
      | dic kvs => cases e
termination_by n d => (n, sizeOf d)
theorem dumps_dp {S : Sto} (r : RepS K H ρ S) : ∀ (n : Nat) (ds : List D) (vs : List V) (ps : List PyData), dumps S n ds = some ps → Reps K H ρ ds vs → DpAll K H vs ps
  | n, [], vs, ps, e, h => by
    unfold dumps at e; unfold Reps at h; cases e; subst h; exact .nil
  | n, d :: ds, vs, ps, e, h => by
    unfold dumps at e; unfold Reps at h
    obtain ⟨v, w, rfl, h1, h2⟩ := h
    cases z : dump S n d with
    | none => rw [z] at e; cases e
    | some p =>
      cases y : dumps S n ds with
      | none => simp only [z, y] at e; cases e
      | some qs =>
        simp only [z, y] at e
        cases e
        exact .cons (dump_dp r n d v p z h1) (dumps_dp r n ds w qs y h2)
termination_by n ds => (n, sizeOf ds)
end
end Pd
/-! The operators keep to the machine. -/
namespace Pd
open PySem PySem.Spec PyProof.Rows L2
variable {X : L2.Cx}
theorem pe_mono {e : Expr} {t t' : TE} (h : PE X e t) (hm : ∀ σ H Q, t' σ H Q → t σ H Q) : PE X e t' := ⟨fun pins s σ H Q I q => h.run pins s σ H Q I (hm σ H Q q)⟩
theorem pt_mono {e : Expr} {t t' : TT} (h : PT X e t) (hm : ∀ σ H Q, t' σ H Q → t σ H Q) : PT X e t' := ⟨fun pins s σ H Q I q => h.run pins s σ H Q I (hm σ H Q q)⟩
/-- what is wanted of a value that stands for d, the store S' -/
def Goal (K : PySem.W.Frag) (H : Hp) (ρ : List Addr) (d : D) (S' : Sto) (Q : VK) : Prop := ∀ ρ' H' v, Pre ρ ρ' → Ext H H' → RepS K H' ρ' S' → Rep K H' ρ' d v → Q v H'
/-- .. where nothing is made -/
theorem Goal.now {K : PySem.W.Frag} {H : Hp} {ρ : List Addr} {d : D} {S : Sto} {Q : VK} {v : V} (g : Goal K H ρ d S Q) (r : RepS K H ρ S) (h : Rep K H ρ d v) : Q v H := g ρ H v .refl .refl r h
/-- .. where a tuple is laid -/
theorem Goal.tup {K : PySem.W.Frag} {H : Hp} {ρ : List Addr} {ds : List D} {S : Sto} {Q : VK} {vs : List V} (g : Goal K H ρ (.tup ds) S Q) (r : RepS K H ρ S) (h : Reps K H ρ ds vs) : ∀ p, H p = none → Q (.ref p) (upd H p (.tup vs)) := fun p hp =>
  g ρ _ _ .refl (.new hp) (r.lay hp) (by unfold Rep; exact ⟨p, vs, rfl, .inl (.inl upd_same), h.mono (.new hp) .refl⟩)
/-- .. where a list is laid -/
theorem Goal.lst {K : PySem.W.Frag} {H : Hp} {ρ : List Addr} {ds : List D} {S : Sto} {Q : VK} {vs : List V} (g : Goal K H ρ (.ref S.length) (S ++ [.lst ds]) Q) (r : RepS K H ρ S) (h : Reps K H ρ ds vs) : ∀ p, H p = none → Q (.ref p) (upd H p (.lst vs)) := fun p hp =>
  g (ρ ++ [p]) _ _ .app (.new hp) (r.new hp ⟨vs, upd_same, h.mono (.new hp) .app⟩) (by
    unfold Rep
    refine ⟨p, ?_, rfl⟩
    rw [← r.len, List.getElem?_append_right (Nat.le_refl _), Nat.sub_self]
    rfl)
/-- two values in -/
def rOp (K : PySem.W.Frag) (f : D → D → Sto → Out D) : R2 := fun x y H Q => ∃ ρ S a b d S', RepS K H ρ S ∧ Rep K H ρ a x ∧ Rep K H ρ b y ∧ f a b S = .ok d S' ∧ Goal K H ρ d S' Q
theorem rep_int {K : PySem.W.Frag} {H : Hp} {ρ : List Addr} {i : Int} {v : V} (h : Rep K H ρ (.int i) v) : v = .int i := by unfold Rep at h; exact h
theorem rep_int' {K : PySem.W.Frag} {H : Hp} {ρ : List Addr} {i : Int} : Rep K H ρ (.int i) (.int i) := by unfold Rep; rfl
theorem rep_bl {K : PySem.W.Frag} {H : Hp} {ρ : List Addr} {b : Bool} {v : V} (h : Rep K H ρ (.bl b) v) : v = .bl b := by unfold Rep at h; exact h
theorem rep_bl' {K : PySem.W.Frag} {H : Hp} {ρ : List Addr} {b : Bool} : Rep K H ρ (.bl b) (.bl b) := by unfold Rep; rfl
theorem rep_str {K : PySem.W.Frag} {H : Hp} {ρ : List Addr} {x : Str} {v : V} (h : Rep K H ρ (.str x) v) : v = .str x := by unfold Rep at h; exact h
theorem rep_str' {K : PySem.W.Frag} {H : Hp} {ρ : List Addr} {x : Str} : Rep K H ρ (.str x) (.str x) := by unfold Rep; rfl
theorem rep_non {K : PySem.W.Frag} {H : Hp} {ρ : List Addr} {v : V} (h : Rep K H ρ .non v) : v = .non := by unfold Rep at h; exact h
theorem rep_non' {K : PySem.W.Frag} {H : Hp} {ρ : List Addr} : Rep K H ρ .non .non := by unfold Rep; rfl
theorem out_inj {α : Type} {a b : α} {S T : Sto} (h : Out.ok a S = Out.ok b T) : a = b ∧ S = T := by cases h; exact ⟨rfl, rfl⟩
theorem out_bind {α β : Type} {o : Out α} {k : α → Sto → Out β} {b : β} {T : Sto} (h : o.bind k = .ok b T) : ∃ a S, o = .ok a S ∧ k a S = .ok b T := by
  cases o with
  | ok a S => exact ⟨a, S, rfl, h⟩
  | err c fs S => cases h
  | bad => cases h
/-- the store holds a list there -/
theorem RepS.lstAt {K : PySem.W.Frag} {H : Hp} {ρ : List Addr} {S : Sto} (r : RepS K H ρ S) {n : Nat} {xs : List D} {v : V} (e : S[n]? = some (.lst xs)) (h : Rep K H ρ (.ref n) v) : ∃ a vs, v = .ref a ∧ ρ[n]? = some a ∧ H a = some (.lst vs) ∧ Reps K H ρ xs vs := by
  unfold Rep at h
  obtain ⟨a, h1, h2⟩ := h
  obtain ⟨vs, h3, h4⟩ := r.obj n _ a e h1
  exact ⟨a, vs, h2, h1, h3, h4⟩
theorem RepS.dicAt {K : PySem.W.Frag} {H : Hp} {ρ : List Addr} {S : Sto} (r : RepS K H ρ S) {n : Nat} {xs : List (Str × D)} {v : V} (e : S[n]? = some (.dic xs)) (h : Rep K H ρ (.ref n) v) : ∃ a vs, v = .ref a ∧ ρ[n]? = some a ∧ H a = some (.dK vs) ∧ RepK K H ρ xs vs ∧ (xs.map (·.1)).Nodup := by
  unfold Rep at h
  obtain ⟨a, h1, h2⟩ := h
  obtain ⟨vs, h3, h4⟩ := r.obj n _ a e h1
  exact ⟨a, vs, h2, h1, h3, h4⟩
def opOf : BOp → Operator
  | .add => .Add | .sub => .Sub | .mul => .Mult | .fdiv => .FloorDiv | .mod => .Mod | .pow => .Pow
/-- // by a divisor that is not nought -/
theorem op_fdivG : OpR X (binaryOp .FloorDiv) (rI (fun _ j => j ≠ 0 ∧ j.natAbs.log2 < 9000) fun i j => .int (i.fdiv j)) := opI fun i j _ _ _ _ _ hc q =>
  floordiv_int hc.1 q (.inl (PyProof.noPylong_of_log2 hc.2))
theorem op_bin (op : BOp) : OpR X (binaryOp (opOf op)) (rOp X.K (binop op)) := by
  intro pins s σ H x y v u Q I rx ry h
  obtain ⟨ρ, S, a, b, d, S', r, ha, hb, e, g⟩ := h
  have ii : ∀ {i j : Int}, a = .int i → b = .int j → x = .int i ∧ y = .int j := fun e1 e2 => by subst e1 e2; exact ⟨rep_int ha, rep_int hb⟩
  cases op with
  | add =>
    cases a with
    | int i =>
      cases b with
      | int j =>
        obtain ⟨rfl, rfl⟩ := ii rfl rfl
        obtain ⟨rfl, rfl⟩ := out_inj e
        exact op_add pins s σ H _ _ v u Q I rx ry ⟨i, j, rfl, rfl, g.now r rep_int'⟩
      | _ => cases e
    | tup xs =>
      cases b with
      | tup ys =>
        simp only [binop] at e
        split at e
        · rename_i hz
          obtain ⟨rfl, rfl⟩ := out_inj e
          unfold Rep at ha hb
          obtain ⟨p, vs, rfl, s1, q1⟩ := ha
          obtain ⟨q, ws, rfl, s2, q2⟩ := hb
          refine op_catA pins s σ H _ _ v u Q I rx ry ⟨p, q, vs, ws, rfl, rfl, s1, s2, by rw [q1.len, q2.len]; exact hz, fun h1 => ?_, fun _ h2 => ?_, fun _ _ => g.tup r (q1.app q2)⟩
          · subst h1
            have l := q1.len
            have l2 : xs = [] := List.length_eq_zero_iff.mp (by rw [← l]; rfl)
            subst l2
            exact g.now r (by unfold Rep; exact ⟨q, ws, rfl, s2, q2⟩)
          · subst h2
            have l := q2.len
            have l2 : ys = [] := List.length_eq_zero_iff.mp (by rw [← l]; rfl)
            subst l2
            rw [List.append_nil] at g
            exact g.now r (by unfold Rep; exact ⟨p, vs, rfl, s1, q1⟩)
        · cases e
      | _ => cases e
    | ref n =>
      cases b with
      | ref m =>
        simp only [binop] at e
        split at e
        · rename_i xs ys e1 e2
          split at e
          · rename_i hz
            obtain ⟨rfl, rfl⟩ := out_inj e
            obtain ⟨p, vs, rfl, _, h1, q1⟩ := r.lstAt e1 ha
            obtain ⟨q, ws, rfl, _, h2, q2⟩ := r.lstAt e2 hb
            exact op_cat pins s σ H _ _ v u Q I rx ry ⟨p, q, vs, ws, rfl, rfl, h1, h2, by rw [q1.len, q2.len]; exact hz, g.lst r (q1.app q2)⟩
          · cases e
        · cases e
      | _ => cases e
    | _ => cases e
  | sub =>
    cases a with
    | int i =>
      cases b with
      | int j =>
        obtain ⟨rfl, rfl⟩ := ii rfl rfl
        obtain ⟨rfl, rfl⟩ := out_inj e
        exact op_sub pins s σ H _ _ v u Q I rx ry ⟨i, j, rfl, rfl, g.now r rep_int'⟩
      | _ => cases e
    | _ => cases e
  | mul =>
    cases a with
    | int i =>
      cases b with
      | int j =>
        obtain ⟨rfl, rfl⟩ := ii rfl rfl
        simp only [binop] at e
        split at e
        · rename_i hz
          obtain ⟨rfl, rfl⟩ := out_inj e
          exact op_mulW pins s σ H _ _ v u Q I rx ry ⟨i, j, rfl, rfl, hz, g.now r rep_int'⟩
        · cases e
      | _ => cases e
    | _ => cases e
  | fdiv =>
    cases a with
    | int i =>
      cases b with
      | int j =>
        obtain ⟨rfl, rfl⟩ := ii rfl rfl
        simp only [binop] at e
        split at e
        · rename_i hz
          obtain ⟨rfl, rfl⟩ := out_inj e
          exact op_fdivG pins s σ H _ _ v u Q I rx ry ⟨i, j, rfl, rfl, hz, g.now r rep_int'⟩
        · cases e
      | _ => cases e
    | _ => cases e
  | mod =>
    cases a with
    | int i =>
      cases b with
      | int j =>
        obtain ⟨rfl, rfl⟩ := ii rfl rfl
        simp only [binop] at e
        split at e
        · rename_i hz
          obtain ⟨rfl, rfl⟩ := out_inj e
          exact op_modN pins s σ H _ _ v u Q I rx ry ⟨i, j, rfl, rfl, hz, g.now r rep_int'⟩
        · cases e
      | _ => cases e
    | _ => cases e
  | pow =>
    cases a with
    | int i =>
      cases b with
      | int j =>
        obtain ⟨rfl, rfl⟩ := ii rfl rfl
        simp only [binop] at e
        split at e
        · rename_i hz
          obtain ⟨rfl, rfl⟩ := out_inj e
          exact op_pow pins s σ H _ _ v u Q I rx ry ⟨i, j, rfl, rfl, hz, g.now r rep_int'⟩
        · cases e
      | _ => cases e
    | _ => cases e
/-! ### comparisons -/
def cmpOf : COp → CmpOp
  | .eq => .Eq | .ne => .NotEq | .lt => .Lt | .le => .LtE | .gt => .Gt | .ge => .GtE | .is => .Is | .isnot => .IsNot | .isin => .In | .notin => .NotIn
theorem eqD_cases {S : Sto} {a b : D} {k : Bool} (e : eqD S a b = some k) : (∃ i j, a = .int i ∧ b = .int j ∧ k = decide (i = j)) ∨ (∃ i j, a = .str i ∧ b = .str j ∧ k = decide (i = j)) ∨ (∃ i j, a = .bl i ∧ b = .bl j ∧ k = decide (i = j)) ∨
    ∃ p q, dump S 60 a = some p ∧ dump S 60 b = some q ∧ SeqAt.shaped p = true ∧ SeqAt.shaped q = true ∧ k = PyData.eqv p q := by
  unfold eqD at e
  split at e
  · cases e; exact .inl ⟨_, _, rfl, rfl, rfl⟩
  · cases e; exact .inr (.inl ⟨_, _, rfl, rfl, rfl⟩)
  · cases e; exact .inr (.inr (.inl ⟨_, _, rfl, rfl, rfl⟩))
  · split at e
    · rename_i p q e1 e2
      split at e
      · rename_i h
        cases e
        obtain ⟨h1, h2⟩ := Bool.and_eq_true_iff.mp h
        exact .inr (.inr (.inr ⟨p, q, e1, e2, h1, h2, rfl⟩))
      · cases e
    · cases e
theorem dec_vint (i j : Int) : decide (V.int i = V.int j) = decide (i = j) := by simp
theorem dec_vstr (i j : Str) : decide (V.str i = V.str j) = decide (i = j) := by simp
theorem dec_vbl (i j : Bool) : decide (V.bl i = V.bl j) = decide (i = j) := by simp
theorem isNone_v {K : PySem.W.Frag} {H : Hp} {ρ : List Addr} {a : D} {k : Bool} {x : V} (e : isNone a = some k) (h : Rep K H ρ a x) : decide (x = .non) = k := by
  cases a with
  | non => cases rep_non h; cases e; rfl
  | bl b => cases rep_bl h; cases e; rfl
  | int b => cases rep_int h; cases e; rfl
  | str b => cases rep_str h; cases e; rfl
  | tup b => unfold Rep at h; obtain ⟨_, _, rfl, _⟩ := h; cases e; rfl
  | ref b => unfold Rep at h; obtain ⟨_, _, rfl⟩ := h; cases e; rfl
def rCmp (K : PySem.W.Frag) (op : COp) : R2 := fun x y H Q => ∃ ρ S a b k, RepS K H ρ S ∧ Rep K H ρ a x ∧ Rep K H ρ b y ∧ compOp op a b S = some k ∧ Q (.bl k) H
theorem op_comp (hu : X.A.units + 64 < cLine) (op : COp) : OpR X (compareOp (cmpOf op)) (rCmp X.K op) := by
  intro pins s σ H x y v u Q I rx ry h
  obtain ⟨ρ, S, a, b, k, r, ha, hb, e, q⟩ := h
  have ii : ∀ {i j : Int}, a = .int i → b = .int j → x = .int i ∧ y = .int j := fun e1 e2 => by subst e1 e2; exact ⟨rep_int ha, rep_int hb⟩
  cases op with
  | eq =>
    simp only [compOp] at e
    rcases eqD_cases e with ⟨i, j, rfl, rfl, rfl⟩ | ⟨i, j, rfl, rfl, rfl⟩ | ⟨i, j, rfl, rfl, rfl⟩ | ⟨p, p', e1, e2, s1, s2, rfl⟩
    · cases rep_int ha; cases rep_int hb
      exact op_eq pins s σ H _ _ v u Q I rx ry ⟨rfl, by rw [dec_vint]; exact q⟩
    · cases rep_str ha; cases rep_str hb
      exact op_eq pins s σ H _ _ v u Q I rx ry ⟨rfl, by rw [dec_vstr]; exact q⟩
    · cases rep_bl ha; cases rep_bl hb
      exact op_eq pins s σ H _ _ v u Q I rx ry ⟨rfl, by rw [dec_vbl]; exact q⟩
    · exact op_eqD hu pins s σ H _ _ v u Q I rx ry ⟨p, p', dump_dp r 60 a x p e1 ha, dump_dp r 60 b y p' e2 hb, s1, s2, q⟩
  | ne =>
    simp only [compOp] at e
    obtain ⟨k', e', ek⟩ := Option.map_eq_some_iff.mp e
    subst ek
    rcases eqD_cases e' with ⟨i, j, rfl, rfl, rfl⟩ | ⟨i, j, rfl, rfl, rfl⟩ | ⟨i, j, rfl, rfl, rfl⟩ | ⟨p, p', e1, e2, s1, s2, rfl⟩
    · cases rep_int ha; cases rep_int hb
      exact op_ne pins s σ H _ _ v u Q I rx ry ⟨rfl, by rw [dec_vint]; exact q⟩
    · cases rep_str ha; cases rep_str hb
      exact op_ne pins s σ H _ _ v u Q I rx ry ⟨rfl, by rw [dec_vstr]; exact q⟩
    · cases rep_bl ha; cases rep_bl hb
      exact op_ne pins s σ H _ _ v u Q I rx ry ⟨rfl, by rw [dec_vbl]; exact q⟩
    · exact op_neD hu pins s σ H _ _ v u Q I rx ry ⟨p, p', dump_dp r 60 a x p e1 ha, dump_dp r 60 b y p' e2 hb, s1, s2, q⟩
  | lt =>
    cases a with
    | int i => cases b with
      | int j =>
        obtain ⟨rfl, rfl⟩ := ii rfl rfl
        cases e
        exact op_lt pins s σ H _ _ v u Q I rx ry ⟨i, j, rfl, rfl, q⟩
      | _ => cases e
    | _ => cases e
  | le =>
    cases a with
    | int i => cases b with
      | int j =>
        obtain ⟨rfl, rfl⟩ := ii rfl rfl
        cases e
        exact op_le pins s σ H _ _ v u Q I rx ry ⟨i, j, rfl, rfl, q⟩
      | _ => cases e
    | _ => cases e
  | gt =>
    cases a with
    | int i => cases b with
      | int j =>
        obtain ⟨rfl, rfl⟩ := ii rfl rfl
        cases e
        exact op_gt pins s σ H _ _ v u Q I rx ry ⟨i, j, rfl, rfl, q⟩
      | _ => cases e
    | _ => cases e
  | ge =>
    cases a with
    | int i => cases b with
      | int j =>
        obtain ⟨rfl, rfl⟩ := ii rfl rfl
        cases e
        exact op_ge pins s σ H _ _ v u Q I rx ry ⟨i, j, rfl, rfl, q⟩
      | _ => cases e
    | _ => cases e
  | is =>
    cases b with
    | non =>
      cases rep_non hb
      have e' : isNone a = some k := by cases a <;> exact e
      exact op_isN pins s σ H _ _ v u Q I rx ry ⟨rfl, by rw [isNone_v e' ha]; exact q⟩
    | bl j => cases a with
      | bl i =>
        cases rep_bl ha; cases rep_bl hb
        cases e
        exact op_isBl pins s σ H _ _ v u Q I rx ry ⟨i, j, rfl, rfl, q⟩
      | _ => cases e
    | _ => cases a <;> cases e
  | isnot =>
    cases b with
    | non =>
      cases rep_non hb
      have e' : (isNone a).map (!·) = some k := by cases a <;> exact e
      obtain ⟨k', e2, ek⟩ := Option.map_eq_some_iff.mp e'
      subst ek
      exact op_notN pins s σ H _ _ v u Q I rx ry ⟨rfl, by rw [isNone_v e2 ha]; exact q⟩
    | bl j => cases a with
      | bl i =>
        cases rep_bl ha; cases rep_bl hb
        cases e
        exact op_notBl pins s σ H _ _ v u Q I rx ry ⟨i, j, rfl, rfl, q⟩
      | _ => cases e
    | _ => cases a <;> cases e
  | isin => cases a <;> cases b <;> cases e
  | notin => cases a <;> cases b <;> cases e
/-! ### truth, types -/
theorem isEmpty_reps {K : PySem.W.Frag} {H : Hp} {ρ : List Addr} {ds : List D} {vs : List V} (h : Reps K H ρ ds vs) : vs.isEmpty = ds.isEmpty := by
  cases ds with
  | nil => unfold Reps at h; subst h; rfl
  | cons d r => unfold Reps at h; obtain ⟨_, _, rfl, _⟩ := h; rfl
theorem truth_v {K : PySem.W.Frag} {H : Hp} {ρ : List Addr} {S : Sto} {d : D} {k : Bool} {x : V} (r : RepS K H ρ S) (e : truth d S = some k) (h : Rep K H ρ d x) : TruV K x H k := by
  cases d with
  | non => cases rep_non h; cases e; rfl
  | bl b => cases rep_bl h; cases e; rfl
  | int b => cases rep_int h; cases e; rfl
  | str b => cases e
  | tup ds =>
    cases e
    unfold Rep at h
    obtain ⟨a, vs, rfl, s, q⟩ := h
    exact .inr (.inl ⟨vs, s, by rw [isEmpty_reps q]⟩)
  | ref n =>
    cases q : S[n]? with
    | none => simp only [truth, q] at e; cases e
    | some so =>
      cases so with
      | lst xs =>
        simp only [truth, q] at e
        cases e
        obtain ⟨a, vs, rfl, _, h1, h2⟩ := r.lstAt q h
        exact .inl ⟨vs, .of h1, by rw [isEmpty_reps h2]⟩
      | frz xs =>
        simp only [truth, q] at e
        cases e
        unfold Rep at h
        obtain ⟨a, e1, rfl⟩ := h
        obtain ⟨vs, h1, h2⟩ := r.obj n _ a q e1
        exact .inl ⟨vs, h1.sq, by rw [isEmpty_reps h2]⟩
      | dic kvs => simp only [truth, q] at e; cases e
def tyS : Ty → String
  | .int => "int" | .bool => "bool" | .str => "str" | .list => "list" | .tuple => "tuple" | .dict => "dict"
theorem ty_v {K : PySem.W.Frag} {H : Hp} {ρ : List Addr} {S : Sto} {d : D} {t : Ty} {x : V} (r : RepS K H ρ S) (e : tyOf S d = some t) (h : Rep K H ρ d x) : TyX K H x (.type (tyS t)) := by
  cases d with
  | non => cases e
  | bl b => cases rep_bl h; cases e; exact .base (.bl b)
  | int b => cases rep_int h; cases e; exact .base (.int b)
  | str b => cases rep_str h; cases e; exact .base (.str b)
  | tup ds =>
    cases e
    unfold Rep at h
    obtain ⟨a, vs, rfl, s, q⟩ := h
    rcases s with (s | ⟨o, s⟩) | ⟨o, its, n, k1, k2, _⟩
    · exact .base (.tup s)
    · exact .fTuple s
    · exact .kTuple k1 k2
  | ref n =>
    cases q : S[n]? with
    | none => simp only [tyOf, q] at e; cases e
    | some so =>
      cases so with
      | lst xs =>
        simp only [tyOf, q] at e
        cases e
        obtain ⟨a, vs, rfl, _, h1, h2⟩ := r.lstAt q h
        exact .base (.lst h1)
      | frz xs =>
        simp only [tyOf, q] at e
        cases e
        unfold Rep at h
        obtain ⟨a, e1, rfl⟩ := h
        obtain ⟨vs, h1, h2⟩ := r.obj n _ a q e1
        rcases h1 with ⟨o, h1⟩ | ⟨o, its, m, h1, h3, _⟩
        · exact .base (.frz h1)
        · exact .kList h1 h3
      | dic kvs =>
        simp only [tyOf, q] at e
        cases e
        obtain ⟨a, vs, rfl, _, h1, h2, _⟩ := r.dicAt q h
        exact .base (.dK h1)
theorem kit_sub (t u : Ty) : kitB (tyS t) (tyS u) = some (t.sub u) := by cases t <;> cases u <;> decide +kernel
theorem kit_none (u : Ty) : kitB "NoneType" (tyS u) = some false := by cases u <;> decide +kernel
end Pd
/-! Places, cuts, built-ins, stores. -/
namespace Pd
open PySem PySem.Spec PyProof.Rows L2
variable {X : L2.Cx}
theorem RepK.get {K : PySem.W.Frag} {H : Hp} {ρ : List Addr} {k : Str} {d : D} : ∀ {kvs : List (Str × D)} {vs : List (Key × V)}, RepK K H ρ kvs vs → dget k kvs = some d → ∃ v, valV vs (Sum.inr k) = some v ∧ Rep K H ρ d v
  | [], _, h, e => by cases e
  | (x, y) :: r, vs, h, e => by
    obtain ⟨v, s, rfl, h1, h2⟩ := h
    unfold dget at e
    split at e
    · rename_i hx
      cases e
      subst hx
      exact ⟨v, valV_pos rfl, h1⟩
    · rename_i hx
      obtain ⟨w, e1, e2⟩ := RepK.get h2 e
      exact ⟨w, by rw [valV_neg (fun z => hx (Sum.inr.inj z))]; exact e1, e2⟩
theorem any_put {k : Str} : ∀ {kvs : List (Str × D)} {vs : List (Key × V)} {K : PySem.W.Frag} {H : Hp} {ρ : List Addr} {d : D} {kvs' : List (Str × D)}, RepK K H ρ kvs vs → dput k d kvs = some kvs' → (vs.any fun kv => decide (kv.1 = Sum.inr k)) = true
  | [], _, _, _, _, _, _, h, e => by cases e
  | (x, y) :: r, vs, K, H, ρ, d, kvs', h, e => by
    obtain ⟨v, s, rfl, h1, h2⟩ := h
    unfold dput at e
    split at e
    · rename_i hx
      subst hx
      simp
    · obtain ⟨l, e1, _⟩ := Option.map_eq_some_iff.mp e
      rw [List.any_cons, any_put h2 e1, Bool.or_true]
/-- keys apart -/
def keysNd (kvs : List (Str × D)) : Prop := (kvs.map (·.1)).Nodup
theorem map_off {K : PySem.W.Frag} {H : Hp} {ρ : List Addr} {k : Str} {v : V} : ∀ {kvs : List (Str × D)} {vs : List (Key × V)}, RepK K H ρ kvs vs → k ∉ kvs.map (·.1) → vs.map (fun kv => if kv.1 = Sum.inr k then (kv.1, v) else kv) = vs
  | [], _, h, _ => by unfold RepK at h; subst h; rfl
  | (x, y) :: r, vs, h, hk => by
    obtain ⟨w, s, rfl, h1, h2⟩ := h
    rw [List.map_cons, List.mem_cons, not_or] at hk
    rw [List.map_cons, map_off h2 hk.2, if_neg (fun z => hk.1 (Sum.inr.inj z).symm)]
theorem RepK.put {K : PySem.W.Frag} {H : Hp} {ρ : List Addr} {k : Str} {d : D} {v : V} (hv : Rep K H ρ d v) : ∀ {kvs kvs' : List (Str × D)} {vs : List (Key × V)}, RepK K H ρ kvs vs → keysNd kvs → dput k d kvs = some kvs' →
    RepK K H ρ kvs' (vs.map fun kv => if kv.1 = Sum.inr k then (kv.1, v) else kv) ∧ kvs'.map (·.1) = kvs.map (·.1)
  | [], _, _, h, _, e => by cases e
  | (x, y) :: r, kvs', vs, h, nd, e => by
    obtain ⟨w, s, rfl, h1, h2⟩ := h
    unfold keysNd at nd
    rw [List.map_cons, List.nodup_cons] at nd
    unfold dput at e
    split at e
    · rename_i hx
      cases e
      subst hx
      refine ⟨⟨v, s, ?_, hv, h2⟩, rfl⟩
      rw [List.map_cons, map_off h2 nd.1, if_pos rfl]
    · rename_i hx
      obtain ⟨l, e1, e2⟩ := Option.map_eq_some_iff.mp e
      subst e2
      obtain ⟨q1, q2⟩ := RepK.put hv h2 nd.2 e1
      refine ⟨⟨w, _, ?_, h1, q1⟩, by rw [List.map_cons, List.map_cons, q2]⟩
      rw [List.map_cons, if_neg (fun z => hx (Sum.inr.inj z))]
/-! ### places, cuts -/
theorem ix_row (hu : X.A.units + 1 < cLine) : IxR X (rOp X.K index) := by
  intro value slice pins s σ H x y v u Q I rx ry h hs
  obtain ⟨ρ, S, a, b, d, S', r, ha, hb, e, g⟩ := h
  cases a with
  | tup xs =>
    cases b with
    | int i =>
      cases rep_int hb
      unfold Rep at ha
      obtain ⟨p, vs, rfl, sq, q⟩ := ha
      simp only [index] at e
      split at e
      · rename_i z hz
        obtain ⟨rfl, rfl⟩ := out_inj e
        obtain ⟨w, e1, e2⟩ := q.at_ hz
        exact ix_tup value slice pins s σ H _ _ v u Q I rx ry ⟨p, vs, i, w, rfl, rfl, sq, e1, g.now r e2⟩ hs
      · cases e
    | _ => cases e
  | ref n =>
    cases b with
    | int i =>
      cases rep_int hb
      simp only [index] at e
      split at e
      · rename_i xs hx
        split at e
        · rename_i z hz
          obtain ⟨rfl, rfl⟩ := out_inj e
          obtain ⟨p, vs, rfl, q, hq⟩ := r.items hx ha
          obtain ⟨w, e1, e2⟩ := q.at_ hz
          rcases hq with ⟨_, _, hq⟩ | ⟨hq, _⟩
          · exact ix_list value slice pins s σ H _ _ v u Q I rx ry ⟨p, vs, i, w, rfl, rfl, hq, e1, g.now r e2⟩ hs
          · cases hq
        · cases e
      · cases e
    | str k =>
      cases rep_str hb
      simp only [index] at e
      split at e
      · rename_i kvs hx
        split at e
        · rename_i z hz
          obtain ⟨rfl, rfl⟩ := out_inj e
          obtain ⟨p, vs, rfl, _, h1, h2, _⟩ := r.dicAt hx ha
          obtain ⟨w, e1, e2⟩ := h2.get hz
          cases (show v = Value.ref p from rx)
          have G : DGet H p (.str k) (some w) := by rw [← e1]; exact DGet.k (k := Sum.inr k) h1
          exact tail_any (dict_typeIs I G) PySem.F.slot_dict_getitem.lookup (d_getItem (A := X.A) (E := X.xe) hu I G ry fun w' s' I' rw' => ⟨w, H, I', rw', g.now r e2⟩) hs
        · cases e
      · cases e
    | _ => cases e
  | _ => cases e
def rSl (K : PySem.W.Frag) : V → Option Int → Option Int → Hp → VK → Prop := fun x lo hi H Q => ∃ ρ S a d S', RepS K H ρ S ∧ Rep K H ρ a x ∧ slice a lo hi S = .ok d S' ∧ Goal K H ρ d S' Q
theorem cut_whole {α : Type} {xs : List α} {lo hi : Option Int} (h : HT.sIx xs.length 0 lo = 0 ∧ HT.sIx xs.length xs.length hi = xs.length) :
    (xs.drop (HT.sIx xs.length 0 lo)).take (HT.sIx xs.length xs.length hi - HT.sIx xs.length 0 lo) = xs := by
  rw [h.1, h.2, List.drop_zero, Nat.sub_zero, List.take_length]
theorem sl_row : SlR X (rSl X.K) := by
  intro pins s σ H x v vl vu lo hi sl Q I rx hs pl pu h
  obtain ⟨ρ, S, a, d, S', r, ha, e, g⟩ := h
  cases a with
  | tup xs =>
    simp only [slice] at e
    obtain ⟨rfl, rfl⟩ := out_inj e
    unfold Rep at ha
    obtain ⟨p, vs, rfl, sq, q⟩ := ha
    refine sl_tupA pins s σ H _ v vl vu lo hi sl Q I rx hs pl pu ⟨p, vs, rfl, sq, fun hw => g.now r ?_, fun _ => g.tup r (q.cut lo hi)⟩
    rw [q.len] at hw
    have e2 : cutD xs lo hi = xs := cut_whole hw
    rw [e2]
    unfold Rep
    exact ⟨p, vs, rfl, sq, q⟩
  | ref n =>
    simp only [slice] at e
    split at e
    · rename_i xs hx
      obtain ⟨rfl, rfl⟩ := out_inj e
      obtain ⟨p, vs, rfl, q, hq⟩ := r.items hx ha
      rcases hq with ⟨_, _, hq⟩ | ⟨hq, _⟩
      · exact sl_list pins s σ H _ v vl vu lo hi sl Q I rx hs pl pu ⟨p, vs, rfl, hq, g.lst r (q.cut lo hi)⟩
      · cases hq
    · cases e
  | _ => cases e
/-! ### built-ins -/
def rBi (K : PySem.W.Frag) (f : List D → Sto → Out D) : List V → Hp → VK → Prop := fun vs H Q => ∃ ρ S ds d S', RepS K H ρ S ∧ Reps K H ρ ds vs ∧ f ds S = .ok d S' ∧ Goal K H ρ d S' Q
theorem reps1 {K : PySem.W.Frag} {H : Hp} {ρ : List Addr} {d : D} {vs : List V} (h : Reps K H ρ [d] vs) : ∃ v, vs = [v] ∧ Rep K H ρ d v := by
  unfold Reps at h
  obtain ⟨v, r, rfl, h1, h2⟩ := h
  unfold Reps at h2
  subst h2
  exact ⟨v, rfl, h1⟩
theorem reps2 {K : PySem.W.Frag} {H : Hp} {ρ : List Addr} {d e : D} {vs : List V} (h : Reps K H ρ [d, e] vs) : ∃ v w, vs = [v, w] ∧ Rep K H ρ d v ∧ Rep K H ρ e w := by
  unfold Reps at h
  obtain ⟨v, r, rfl, h1, h2⟩ := h
  obtain ⟨w, rfl, h3⟩ := reps1 h2
  exact ⟨v, w, rfl, h1, h3⟩
theorem row1 {α : Type} {l : List α} {a : α} (h : l = [a]) : l = [a] := h
theorem cr_len : CallR X (.builtin "len") (rBi X.K bLen) := by
  intro pins s σ H vs us Q I rv h
  obtain ⟨ρ, S, ds, d, S', r, hd, e, g⟩ := h
  unfold bLen at e
  split at e
  · obtain ⟨v, rfl, h1⟩ := reps1 hd
    split at e
    · split at e
      · rename_i hz
        obtain ⟨rfl, rfl⟩ := out_inj e
        cases rep_str h1
        exact call_len pins s σ H _ us Q I rv ⟨.str _, _, rfl, ⟨hz, rfl⟩, g.now r rep_int'⟩
      · cases e
    · split at e
      · rename_i xs hx
        obtain ⟨rfl, rfl⟩ := out_inj e
        obtain ⟨p, ws, rfl, q, hq⟩ := r.items hx h1
        refine call_len pins s σ H _ us Q I rv ⟨.ref p, xs.length, rfl, ?_, g.now r rep_int'⟩
        rw [← q.len]
        rcases hq with ⟨_, _, hq⟩ | ⟨_, hq⟩
        · exact .inl ⟨ws, hq, rfl⟩
        · exact .inr ⟨ws, hq, rfl⟩
      · cases e
  · cases e
theorem int2_cases {f : Int → Int → Int} {ds : List D} {S S' : Sto} {d : D} (e : bInt2 f ds S = .ok d S') : ∃ i j, ds = [.int i, .int j] ∧ d = .int (f i j) ∧ S' = S := by
  unfold bInt2 at e
  split at e
  · obtain ⟨rfl, rfl⟩ := out_inj e
    exact ⟨_, _, rfl, rfl, rfl⟩
  · cases e
theorem int1_cases {f : Int → Int} {ds : List D} {S S' : Sto} {d : D} (e : bInt1 f ds S = .ok d S') : ∃ i, ds = [.int i] ∧ d = .int (f i) ∧ S' = S := by
  unfold bInt1 at e
  split at e
  · obtain ⟨rfl, rfl⟩ := out_inj e
    exact ⟨_, rfl, rfl, rfl⟩
  · cases e
theorem cr_gcdD : CallR X (.builtin "math.gcd") (rBi X.K (bInt2 gcdI)) := by
  intro pins s σ H vs us Q I rv h
  obtain ⟨ρ, S, ds, d, S', r, hd, e, g⟩ := h
  obtain ⟨i, j, rfl, rfl, rfl⟩ := int2_cases e
  obtain ⟨v, w, rfl, h1, h2⟩ := reps2 hd
  cases rep_int h1; cases rep_int h2
  exact cr_gcd pins s σ H _ us Q I rv ⟨i, j, rfl, g.now r rep_int'⟩
theorem cr_abs : CallR X (.builtin "abs") (rBi X.K (bInt1 fun i => if i < 0 then -i else i)) := by
  intro pins s σ H vs us Q I rv h
  obtain ⟨ρ, S, ds, d, S', r, hd, e, g⟩ := h
  obtain ⟨i, rfl, rfl, rfl⟩ := int1_cases e
  obtain ⟨v, rfl, h1⟩ := reps1 hd
  cases rep_int h1
  exact call_abs pins s σ H _ us Q I rv ⟨i, rfl, g.now r rep_int'⟩
theorem cr_int : CallR X (.type "int") (rBi X.K (bInt1 fun i => i)) := by
  intro pins s σ H vs us Q I rv h
  obtain ⟨ρ, S, ds, d, S', r, hd, e, g⟩ := h
  obtain ⟨i, rfl, rfl, rfl⟩ := int1_cases e
  obtain ⟨v, rfl, h1⟩ := reps1 hd
  cases rep_int h1
  exact call_int1 pins s σ H _ us Q I rv (.inl ⟨i, rfl, g.now r rep_int'⟩)
theorem cr_max (hc : X.calm = true) : CallR X (.builtin "max") (rBi X.K (bInt2 fun i j => if j > i then j else i)) := by
  intro pins s σ H vs us Q I rv h
  obtain ⟨ρ, S, ds, d, S', r, hd, e, g⟩ := h
  obtain ⟨i, j, rfl, rfl, rfl⟩ := int2_cases e
  obtain ⟨v, w, rfl, h1, h2⟩ := reps2 hd
  cases rep_int h1; cases rep_int h2
  exact call_max2 hc pins s σ H _ us Q I rv ⟨i, j, rfl, g.now r rep_int'⟩
theorem cr_min (hc : X.calm = true) : CallR X (.builtin "min") (rBi X.K (bInt2 fun i j => if j < i then j else i)) := by
  intro pins s σ H vs us Q I rv h
  obtain ⟨ρ, S, ds, d, S', r, hd, e, g⟩ := h
  obtain ⟨i, j, rfl, rfl, rfl⟩ := int2_cases e
  obtain ⟨v, w, rfl, h1, h2⟩ := reps2 hd
  cases rep_int h1; cases rep_int h2
  exact call_min2 hc pins s σ H _ us Q I rv ⟨i, j, rfl, g.now r rep_int'⟩
theorem cr_list : CallR X (.type "list") (rBi X.K bList) := by
  intro pins s σ H vs us Q I rv h
  obtain ⟨ρ, S, ds, d, S', r, hd, e, g⟩ := h
  unfold bList at e
  split at e
  · obtain ⟨v, rfl, h1⟩ := reps1 hd
    split at e
    · rename_i xs hx
      obtain ⟨rfl, rfl⟩ := out_inj e
      obtain ⟨p, ws, rfl, q, hq⟩ := r.items hx h1
      refine call_list_of pins s σ H _ us Q I rv ⟨p, ws, rfl, ?_, g.lst r q⟩
      rcases hq with ⟨_, _, hq⟩ | ⟨_, hq⟩
      · exact .inl hq
      · exact .inr hq
    · cases e
  · cases e
theorem cr_tuple : CallR X (.type "tuple") (rBi X.K bTuple) := by
  intro pins s σ H vs us Q I rv h
  obtain ⟨ρ, S, ds, d, S', r, hd, e, g⟩ := h
  unfold bTuple at e
  split at e
  · obtain ⟨v, rfl, h1⟩ := reps1 hd
    split at e
    · rename_i xs hx
      obtain ⟨rfl, rfl⟩ := out_inj e
      obtain ⟨p, ws, rfl, q, hq⟩ := r.items hx h1
      refine call_tuple_of pins s σ H _ us Q I rv ⟨p, ws, rfl, ?_⟩
      rcases hq with ⟨_, _, hq⟩ | ⟨rfl, hq⟩
      · exact .inl ⟨hq, g.tup r q⟩
      · exact .inr ⟨hq, g.now r h1⟩
    · cases e
  · cases e
/-! ### repr -/
mutual
theorem dump_depth {S : Sto} : ∀ (n : Nat) (d : D) (p : PyData), dump S n d = some p → p.depth ≤ n ∧ p.hasDict = false
  | n, .non, p, e => by unfold dump at e; cases e; exact ⟨Nat.zero_le _, rfl⟩
  | n, .bl b, p, e => by unfold dump at e; cases e; exact ⟨Nat.zero_le _, rfl⟩
  | n, .int b, p, e => by unfold dump at e; cases e; exact ⟨Nat.zero_le _, rfl⟩
  | n, .str b, p, e => by unfold dump at e; cases e; exact ⟨Nat.zero_le _, rfl⟩
  | 0, .tup ds, p, e => by unfold dump at e; cases e
  | n + 1, .tup ds, p, e => by
    unfold dump at e
    obtain ⟨ps, e1, rfl⟩ := Option.map_eq_some_iff.mp e
    obtain ⟨h1, h2⟩ := dumps_depth n ds ps e1
    exact ⟨Nat.succ_le_succ h1, h2⟩
  | 0, .ref m, p, e => by unfold dump at e; cases e
  | n + 1, .ref m, p, e => by
    unfold dump at e
    cases y : S[m]? with
    | none => rw [y] at e; cases e
    | some so =>
      rw [y] at e
      cases so with
      | lst ds =>
        obtain ⟨ps, e1, rfl⟩ := Option.map_eq_some_iff.mp e
        obtain ⟨h1, h2⟩ := dumps_depth n ds ps e1
        exact ⟨Nat.succ_le_succ h1, h2⟩
      | frz ds =>
        obtain ⟨ps, e1, rfl⟩ := Option.map_eq_some_iff.mp e
        obtain ⟨h1, h2⟩ := dumps_depth n ds ps e1
        exact ⟨Nat.succ_le_succ h1, h2⟩
      | dic kvs => cases e
termination_by n d => (n, sizeOf d)
theorem dumps_depth {S : Sto} : ∀ (n : Nat) (ds : List D) (ps : List PyData), dumps S n ds = some ps → PyData.depthAll ps ≤ n ∧ PyData.hasDictAll ps = false
  | n, [], ps, e => by unfold dumps at e; cases e; exact ⟨Nat.zero_le _, rfl⟩
  | n, d :: ds, ps, e => by
    unfold dumps at e
    cases z : dump S n d with
    | none => rw [z] at e; cases e
    | some p =>
      rw [z] at e
      obtain ⟨qs, e1, rfl⟩ := Option.map_eq_some_iff.mp e
      obtain ⟨h1, h2⟩ := dump_depth n d p z
      obtain ⟨h3, h4⟩ := dumps_depth n ds qs e1
      refine ⟨Nat.max_le.mpr ⟨h1, h3⟩, ?_⟩
      show (p.hasDict || PyData.hasDictAll qs) = false
      rw [h2, h4]
      rfl
termination_by n ds => (n, sizeOf ds)
end
theorem dump_ref {S : Sto} {n : Nat} {d : D} {p : PyData} (e : dump S n d = some p) : (d = .non ∧ p = .none) ∨ (∃ b, d = .bl b ∧ p = .bool b) ∨ (∃ i, d = .int i ∧ p = .int i) ∨ (∃ x, d = .str x ∧ p = .str x) ∨ (∃ ds, d = .tup ds) ∨ ∃ m, d = .ref m := by
  cases d with
  | non => unfold dump at e; cases e; exact .inl ⟨rfl, rfl⟩
  | bl b => unfold dump at e; cases e; exact .inr (.inl ⟨b, rfl, rfl⟩)
  | int b => unfold dump at e; cases e; exact .inr (.inr (.inl ⟨b, rfl, rfl⟩))
  | str b => unfold dump at e; cases e; exact .inr (.inr (.inr (.inl ⟨b, rfl, rfl⟩)))
  | tup ds => exact .inr (.inr (.inr (.inr (.inl ⟨ds, rfl⟩))))
  | ref m => exact .inr (.inr (.inr (.inr (.inr ⟨m, rfl⟩))))
theorem cr_repr (hg : X.A.guards = some []) (hu : X.A.units + 64 < cLine) : CallR X (.builtin "repr") (rBi X.K bRepr) := by
  intro pins s σ H vs us Q I rv h
  obtain ⟨ρ, S, ds, d, S', r, hd, e, g⟩ := h
  unfold bRepr at e
  split at e
  · obtain ⟨v, rfl, h1⟩ := reps1 hd
    split at e
    · rename_i p hp
      split at e
      · rename_i hz
        obtain ⟨hz1, hz2⟩ := hz
        obtain ⟨rfl, rfl⟩ := out_inj e
        obtain ⟨dd1, dd2⟩ := dump_depth 60 _ _ hp
        obtain ⟨u, rfl, ru⟩ := rv.one
        have q : Q (.str p.shown) H := g.now r rep_str'
        have D1 := dump_dp r 60 _ _ _ hp h1
        have fin : ∀ h' u' tk, (∀ b o, s.heap.get? b = some o → h'.get? b = some o) → EP X pins σ Q (.str p.shown u') { s with heap := h', toks := tk } := fun h' u' tk hk => ⟨.str p.shown, H, I.kept (t' := tk) hk, ⟨_, rfl⟩, q⟩
        have goRef : ∀ a, v = .ref a → wpAny (model X.prog X.w) X.A (call (.builtin "repr") [u]) (EP X pins σ Q) X.xe s := fun a ea => by
          subst ea
          cases (show u = Value.ref a from ru)
          obtain ⟨as, rd⟩ := Dp.reads I p _ _ D1 ru
          exact repr_of_reads' rd hz1 (fun z => by rw [dd2] at z; cases z) hg (by omega) (fun _ _ z => z) fin hz2
        rcases dump_ref hp with ⟨rfl, rfl⟩ | ⟨b, rfl, rfl⟩ | ⟨i, rfl, rfl⟩ | ⟨x, rfl, rfl⟩ | ⟨l, rfl⟩ | ⟨m, rfl⟩
        · cases rep_non h1
          cases (show u = Value.none from ru)
          exact PySem.P.repr_of_none (fin s.heap _ _ fun _ _ z => z)
        · cases rep_bl h1
          cases (show u = Value.bool b from ru)
          refine PySem.P.repr_of_bool ?_
          exact fin s.heap s.toks (s.toks + 1) fun _ _ z => z
        · cases rep_int h1
          obtain ⟨t, rfl⟩ := (show ∃ t, u = Value.int i t from ru)
          exact PySem.P.repr_of_int (of_decide_eq_true hz1) (fin s.heap _ _ fun _ _ z => z)
        · cases rep_str h1
          obtain ⟨t, rfl⟩ := (show ∃ t, u = Value.str x t from ru)
          exact PySem.P.repr_of_str (fin s.heap _ _ fun _ _ z => z) hz2
        · unfold Rep at h1
          obtain ⟨a, ws, ev, _⟩ := h1
          exact goRef a ev
        · unfold Rep at h1
          obtain ⟨a, _, ev⟩ := h1
          exact goRef a ev
      · cases e
    · cases e
  · cases e
end Pd
/-! Methods, stores, what is walked. -/
namespace Pd
open PySem PySem.Spec PyProof.Rows L2
variable {X : L2.Cx}
/-! ### methods of lists -/
def rMe (K : PySem.W.Frag) (f : D → List D → Sto → Out D) : V → List V → Hp → VK → Prop := fun x vs H Q => ∃ ρ S a ds d S', RepS K H ρ S ∧ Rep K H ρ a x ∧ Reps K H ρ ds vs ∧ f a ds S = .ok d S' ∧ Goal K H ρ d S' Q
theorem write_set {lo a : Nat} {o : SO} {S S' : Sto} (h : write lo a o S = some S') : S' = S.set a o := by
  unfold write at h
  split at h
  · exact (Option.some.inj h).symm
  · cases h
/-- a list of the store is written -/
theorem Goal.set {K : PySem.W.Frag} {H : Hp} {ρ : List Addr} {S : Sto} {n : Nat} {a : Addr} {vs ws : List V} {ds : List D} {d : D} {Q : VK} {v : V} (g : Goal K H ρ d (S.set n (.lst ds)) Q) (r : RepS K H ρ S) (hz : ∀ ds, S[n]? ≠ some (.frz ds)) (ha : ρ[n]? = some a) (hu : H a = some (.lst vs)) (q : Reps K H ρ ds ws)
    (hv : Rep K H ρ d v) : Q v (upd H a (.lst ws)) := by
  have x : Ext H (upd H a (.lst ws)) := .write hu (fun _ z => nomatch z) fun _ _ z => nomatch z
  exact g ρ _ v .refl x (r.set hz ha hu (fun _ z => nomatch z) (fun _ _ z => nomatch z) ⟨ws, upd_same, q.mono x .refl⟩) (hv.mono x .refl)
def appL (lo : Nat) : D → List D → Sto → Out D := fun a ds S => match ds with
  | [e] => appendD lo a e S
  | _ => .bad
theorem mt_app {lo : Nat} : MtM X "list.append" (rMe X.K (appL lo)) := by
  intro pins s σ H x vs v us Q I rx rv h
  obtain ⟨ρ, S, a, ds, d, S', r, ha, hd, e, g⟩ := h
  unfold appL at e
  split at e
  · rename_i e0
    obtain ⟨y, rfl, hy⟩ := reps1 hd
    unfold appendD at e
    split at e
    · split at e
      · rename_i xs hx
        split at e
        · rename_i hz
          split at e
          · rename_i S2 hw
            obtain ⟨rfl, rfl⟩ := out_inj e
            cases write_set hw
            obtain ⟨p, ws, rfl, h0, h1, q⟩ := r.lstAt hx ha
            exact mt_append pins s σ H _ _ v us Q I rx rv ⟨p, ws, y, rfl, rfl, h1, by rw [q.len]; exact hz, g.set r (fun _ z => by rw [hx] at z; cases z) h0 h1 (q.app (.one hy)) rep_non'⟩
          · cases e
        · cases e
      · cases e
    · cases e
  · cases e
def extL (lo : Nat) : D → List D → Sto → Out D := fun x ds S => match ds with
  | [y] => extendD lo x y S
  | _ => .bad
theorem RepS.rowW {K : PySem.W.Frag} {H : Hp} {ρ : List Addr} {S : Sto} (r : RepS K H ρ S) {d : D} {ds : List D} {v : V} (e : rowW S d = some ds) (h : Rep K H ρ d v) : ∃ a vs, v = .ref a ∧ Reps K H ρ ds vs ∧ (H a = some (.lst vs) ∨ SqT K H a vs) := by
  cases d with
  | tup xs =>
    unfold Rep at h
    obtain ⟨a, vs, e1, s, q⟩ := h
    have e2 : xs = ds := Option.some.inj e
    subst e2
    exact ⟨a, vs, e1, q, .inr s⟩
  | ref n =>
    cases q : S[n]? with
    | none => simp only [Pd.rowW, q] at e; cases e
    | some so =>
      cases so with
      | lst xs =>
        simp only [Pd.rowW, q] at e
        cases e
        obtain ⟨a, vs, e1, _, e3, e4⟩ := r.lstAt q h
        exact ⟨a, vs, e1, e4, .inl e3⟩
      | frz xs => simp only [Pd.rowW, q] at e; cases e
      | dic kvs => simp only [Pd.rowW, q] at e; cases e
  | _ => cases e
section
open PySem.Builtin PySem.Builtin.List PySem.AutoSeq1
theorem list_extend_tup (l : Addr) (items : Array Value) (n : Nat) (b : Addr) (items2 : Array Value) (n2 : Nat) (dd : Option Addr) (sl : Array (Option Value)) (hs0 : ¬(!items.isEmpty && Builtin.List.listTooLong (items.size + items2.size)) = true) (hs1 : items.size ≤ sizeLine) (hs2 : items.size + items2.size ≤ sizeLine + 1) :
    Meets (Builtin.«list.extend» ⟨[.ref l, .ref b], []⟩) (fun _ R s => s.heap.get? l = some { cls := .type "list", dict := none, data := .seq items n, slots := #[] } ∧ s.heap.get? b = some { cls := .type "tuple", dict := dd, data := .seq items2 n2, slots := sl } ∧ R (.ok (.ret Value.none)) { s with heap := s.heap.update l (Obj.mapSeq fun x => x ++ items2), toks := s.toks }) :=
  .of_wp fun prog w A R s h => by
    obtain ⟨hp, g, d, tk, os⟩ := s; obtain ⟨hl, hb, h⟩ := h; have f1 := idx_int; have f2 := PySem.AutoSeq1.sub_tuple_tuple; have f3 := PySem.AutoSeq1.sub_list_list; have f4 := PySem.AutoSeq1.sub_tuple_list; have f5 := PySem.AutoSeq1.sub_list_tuple;
    have hz' : (items ++ items2).size ≤ sizeLine + 1 := by rw [Array.size_append]; exact hs2
    wp_walk using (wpAny_updateSeq hl rfl (hz := hs1) (_hz' := hz')), wpAny_loadPart' hl, wpAny_loadPart' hb; exact ⟨_, rfl, h⟩
end
theorem extend_tup {pins : List (Addr × Obj)} {s : Shared} {σ : L2.St} {H : Hp} {Q : VK} {l b : Addr} {xs zs : List V} (I : L2.Inv X pins σ H s) (hH : H l = some (.lst xs)) (hB : SqT X.K H b zs) (hz : xs.length + zs.length ≤ sizeLine)
    (q : Q .non (upd H l (.lst (xs ++ zs)))) : wpAny (model X.prog X.w) X.A (call (.builtin "list.extend") [.ref l, .ref b]) (EP X pins σ Q) X.xe s := by
  obtain ⟨z, its, n, r, hl, e⟩ := I.lstM hH
  obtain ⟨its2, r2, ⟨o2, e2, c2, n2, d2⟩, _⟩ := I.tuple hB
  have hl2 := r2.length
  obtain ⟨oc, od, dt, sl⟩ := o2
  simp only at c2 d2
  subst c2 d2
  have hsz : its.toArray.size + its2.toArray.size ≤ sizeLine := by rw [List.size_toArray, List.size_toArray]; omega
  have hlong : ¬ (!its.toArray.isEmpty && Builtin.List.listTooLong (its.toArray.size + its2.toArray.size)) = true := by
    rw [notLongL hsz, Bool.and_false]
    exact Bool.false_ne_true
  refine call_meets F.slot_list_extend ⟨_, e, rfl⟩ F.entry_list_extend (F.args_list_extend_2 _ _)
    (list_extend_tup l its.toArray n b its2.toArray n2 od sl hlong (by rw [List.size_toArray]; omega) (by omega)) ⟨e, e2, ?_⟩
  refine ⟨.non, _, I.lset (its' := its ++ its2) hH e (by simp) (r.append r2) ?_, rfl, q⟩
  rw [List.length_append]
  omega
theorem mt_ext {lo : Nat} : MtM X "list.extend" (rMe X.K (extL lo)) := by
  intro pins s σ H x vs v us Q I rx rv h
  obtain ⟨ρ, S, a, ds, d, S', r, ha, hd, e, g⟩ := h
  unfold extL at e
  split at e
  · rename_i e0
    obtain ⟨y, rfl, hy⟩ := reps1 hd
    unfold extendD at e
    split at e
    · rename_i n ys hys
      split at e
      · rename_i xs hx
        split at e
        · rename_i hz
          split at e
          · rename_i S2 hw
            obtain ⟨rfl, rfl⟩ := out_inj e
            cases write_set hw
            obtain ⟨p, ws, rfl, h0, h1, q⟩ := r.lstAt hx ha
            obtain ⟨b, zs, rfl, q2, hb⟩ := r.rowW hys hy
            rw [List.length_append] at hz
            have hz2 : ws.length + zs.length ≤ sizeLine := by rw [q.len, q2.len]; exact hz
            have fin : Q .non (upd H p (.lst (ws ++ zs))) := g.set r (fun _ z => by rw [hx] at z; cases z) h0 h1 (q.app q2) rep_non'
            rcases hb with hb | hb
            · exact mt_extend pins s σ H _ _ v us Q I rx rv ⟨p, b, ws, zs, rfl, rfl, h1, hb, hz2, fin⟩
            · obtain ⟨u, rfl, ru⟩ := rv.one
              cases (show u = Value.ref b from ru)
              cases (show v = Value.ref p from rx)
              exact extend_tup I h1 hb hz2 fin
          · cases e
        · cases e
      · cases e
    · cases e
  · cases e
def popL (lo : Nat) : D → List D → Sto → Out D := fun x ds S => match ds with
  | [] => popD lo x S
  | _ => .bad
theorem mt_popD {lo : Nat} : MtM X "list.pop" (rMe X.K (popL lo)) := by
  intro pins s σ H x vs v us Q I rx rv h
  obtain ⟨ρ, S, a, ds, d, S', r, ha, hd, e, g⟩ := h
  unfold popL at e
  split at e
  · unfold popD at e
    unfold Reps at hd
    subst hd
    split at e
    · split at e
      · rename_i xs hx
        split at e
        · rename_i z hz
          split at e
          · rename_i S2 hw
            obtain ⟨rfl, rfl⟩ := out_inj e
            cases write_set hw
            obtain ⟨p, ws, rfl, h0, h1, q⟩ := r.lstAt hx ha
            rw [List.getLast?_eq_getElem?] at hz
            obtain ⟨y, e1, e2⟩ := q.get hz
            exact mt_pop pins s σ H _ _ v us Q I rx rv ⟨p, ws, y, rfl, rfl, h1, by rw [q.len]; exact e1, g.set r (fun _ z => by rw [hx] at z; cases z) h0 h1 q.dropLast e2⟩
          · cases e
        · cases e
      · cases e
    · cases e
  · cases e
/-! ### o[i] = e -/
def Goal0 (K : PySem.W.Frag) (H : Hp) (ρ : List Addr) (S' : Sto) (Q : Hp → Prop) : Prop := ∀ ρ' H', Pre ρ ρ' → Ext H H' → RepS K H' ρ' S' → Q H'
def rSe (K : PySem.W.Frag) (lo : Nat) : TSet := fun o i v H Q => ∃ ρ S a b d S', RepS K H ρ S ∧ Rep K H ρ a o ∧ Rep K H ρ b i ∧ Rep K H ρ d v ∧ setixD lo a b d S = some S' ∧ Goal0 K H ρ S' Q
theorem put_len {k : Str} {d : D} : ∀ {kvs kvs' : List (Str × D)}, dput k d kvs = some kvs' → kvs'.length = kvs.length
  | [], _, e => by cases e
  | (x, y) :: r, kvs', e => by
    unfold dput at e
    split at e
    · cases e; rfl
    · obtain ⟨l, e1, e2⟩ := Option.map_eq_some_iff.mp e
      subst e2
      rw [List.length_cons, List.length_cons, put_len e1]
theorem set_row {lo : Nat} (hu : X.A.units + 1 < cLine) : PSet X (rSe X.K lo) := by
  intro pins s σ H o i v ov iv u Q I ro ri rv h
  obtain ⟨ρ, S, a, b, d, S', r, ha, hb, hv, e, g⟩ := h
  unfold setixD at e
  split at e
  · cases rep_int hb
    split at e
    · rename_i xs hx
      split at e
      · rename_i j hj
        cases write_set e
        obtain ⟨p, ws, rfl, h0, h1, q⟩ := r.lstAt hx ha
        refine set_list pins s σ H _ _ v ov iv u Q I ro ri rv ⟨p, ws, _, j, rfl, rfl, h1, by rw [q.len]; exact hj, ?_⟩
        have x : Ext H (upd H p (.lst (ws.set j v))) := .write h1 (fun _ z => nomatch z) fun _ _ z => nomatch z
        exact g ρ _ .refl x (r.set (fun _ z => by rw [hx] at z; cases z) h0 h1 (fun _ z => nomatch z) (fun _ _ z => nomatch z) ⟨_, upd_same, (q.set j hv).mono x .refl⟩)
      · cases e
    · cases e
  · rename_i n0 k
    cases rep_str hb
    split at e
    · rename_i kvs hx
      split at e
      · rename_i hz
        split at e
        · rename_i kvs' hj
          cases write_set e
          obtain ⟨p, ws, rfl, h0, h1, q, nd⟩ := r.dicAt hx ha
          cases (show ov = Value.ref p from ro)
          obtain ⟨q1, q2⟩ := RepK.put hv q nd hj
          have ek := any_put q hj
          have hl : ws.length < sizeLine := by rw [q.len]; exact hz
          refine d_setItem hu I (DPut.k (k := Sum.inr k) (v := v) h1 hl) ri rv fun s' I' => ⟨_, I', ?_⟩
          have e4 : putK ws (Sum.inr k) v = _ := if_pos ek
          rw [e4]
          have x : Ext H (upd H p (.dK (ws.map fun kv => if kv.1 = Sum.inr k then (kv.1, v) else kv))) := .write h1 (fun _ z => nomatch z) fun _ _ z => nomatch z
          exact g ρ _ .refl x (r.set (fun _ z => by rw [hx] at z; cases z) h0 h1 (fun _ z => nomatch z) (fun _ _ z => nomatch z) ⟨_, upd_same, q1.mono x .refl, by rw [q2]; exact nd⟩)
        · cases e
      · cases e
    · cases e
  · cases e
end Pd
/-! What a loop walks. -/
namespace Pd
open PySem PySem.Spec PyProof.Rows L2
open PySem.AutoSeq1 (wpAny_loadPart')
theorem meets_enum_newT (l : Addr) (items : Array Value) (n : Nat) (dct : Option Addr) (sl : Array (Option Value)) :
    Meets (Builtin.«enumerate.__new__» ⟨[.type "enumerate", .ref l], []⟩) (fun _ R s => s.heap.get? l = some { cls := .type "tuple", dict := dct, data := .seq items n, slots := sl } ∧
      R (.ok (.ret (.ref (s.heap.push { cls := .type "tuple_iterator", data := .fields #[.ref l, .int 0 0] }).objs.size)))
        { s with heap := (s.heap.push { cls := .type "tuple_iterator", data := .fields #[.ref l, .int 0 0] }).push { cls := .type "enumerate", data := .fields #[.none, .bool false, .ref s.heap.objs.size, rawInt 0, .none, .none] } }) :=
  .of_wp fun prog w A R s h => by
    obtain ⟨hp, g, d, tk, os⟩ := s; obtain ⟨hl, h⟩ := h
    have hsub := sub_enumerate
    have hL : Heap.IsTuple (Shared.heap ⟨hp, g, d, tk, os⟩) l items := ⟨_, hl, rfl, n, rfl⟩
    wp_walk using wpAny_loadPart' hl
    refine wpAny_stack_any fun st => wpAny_pure ?_
    split
    · rename_i c _ _ _ _ _
      cases (c == Value.type "enumerate")
      · wp_walk using wpAny_loadPart' hl, wpAny_pyIter_tuple hL
        exact ⟨_, rfl, h⟩
      · wp_walk using wpAny_loadPart' hl, wpAny_pyIter_tuple hL
        exact ⟨_, rfl, h⟩
    · wp_walk using wpAny_loadPart' hl, wpAny_pyIter_tuple hL
      exact ⟨_, rfl, h⟩
theorem call_enum_tup {prog : Program} {w : World} {A : Around} {E : Value → Shared → Prop} {s : Shared} {l : Addr} {items : Array Value} {Q : Value → Shared → Prop} (hL : s.heap.IsTuple l items)
    (h : ∀ h', IsEnum h' (s.heap.objs.size + 1) s.heap.objs.size 0 .none → h'.IsTupleIter s.heap.objs.size l 0 → h'.objs.size = s.heap.objs.size + 2 →
      (∀ b o, s.heap.get? b = some o → h'.get? b = some o) → Q (.ref (s.heap.objs.size + 1)) { s with heap := h' }) :
    wpAny (model prog w) A (call (.type "enumerate") [.ref l]) Q E s := by
  obtain ⟨⟨c, dct, dt, sl⟩, hl, hc, n, hd⟩ := hL
  replace hc : c = .type "tuple" := hc
  replace hd : dt = .seq items n := hd
  subst hc hd
  refine callType_new F.called_enumerate (by decide) (F.typeCall_enumerate_1 _) (F.newCall_enumerate_1 _) (fun obj => F.args_object_init_2 obj _) F.entry_enumerate_new
    (meets_enum_newT l items n dct sl) ⟨hl, ?_⟩
  have hz : (s.heap.push { cls := .type "tuple_iterator", data := .fields #[.ref l, .int 0 0] }).objs.size = s.heap.objs.size + 1 := Heap.size_push ..
  show _ ∧ _
  rw [hz]
  have he : IsEnum ((s.heap.push { cls := .type "tuple_iterator", data := .fields #[.ref l, .int 0 0] }).push
      { cls := .type "enumerate", data := .fields #[.none, .bool false, .ref s.heap.objs.size, rawInt 0, .none, .none] }) (s.heap.objs.size + 1) s.heap.objs.size 0 .none := by
    have := Heap.get?_push_size (s.heap.push { cls := .type "tuple_iterator", data := .fields #[.ref l, .int 0 0] })
      (o := { cls := .type "enumerate", data := .fields #[.none, .bool false, .ref s.heap.objs.size, rawInt 0, .none, .none] }) rfl
    rw [hz] at this; exact this
  refine ⟨⟨_, he, rfl⟩, h _ he ⟨_, Heap.get?_push_of_some _ (Heap.get?_push_size _ rfl), rfl, rfl⟩ (by rw [Heap.size_push, hz]) fun b o x => Heap.get?_push_of_some _ (Heap.get?_push_of_some _ x)⟩
/-- enumerate of the tuple at a, of n items -/
def IteT (K : PySem.W.Frag) (a : Addr) (n : Nat) : It :=
  ⟨fun i H => i < n ∧ ∃ (xs : List V) (x : V), SqT K H a xs ∧ xs.length = n ∧ xs[i]? = some x, fun i H v H' => ∃ T x, v = .ref T ∧ H T = none ∧ H' = upd H T (.tup [.int (i : Nat), x]) ∧ ∀ xs, SqT K H a xs → xs[i]? = some x,
    fun i H => n ≤ i ∧ ∃ xs : List V, SqT K H a xs ∧ xs.length = n⟩
theorem turn_enumT {P : Program} {w : World} {K : PySem.W.Frag} {elts : List Expr} {kk : Nat} {tpos : Pos} (a e it : Addr) (n : Nat) (hai : a ≠ it) (hae : a ≠ e) :
    Turn P w K (.Tuple elts kk tpos) (IteT K a n) [e, it] e (fun i h => i ≤ n ∧ (∃ old, IsEnum h e it ((i : Nat) : Int) old) ∧ h.IsTupleIter it a i ∧ e ≠ it) where
  mem := by simp
  obj := fun i h st b hb => by
    obtain ⟨_, ⟨old, he⟩, ⟨o, ho, hc, hd⟩, _⟩ := st
    have e' : b = e ∨ b = it := by simpa using hb
    rcases e' with z | z
    · rw [z]; exact ⟨_, he, fun v q => nomatch q⟩
    · rw [z]; exact ⟨o, ho, fun v q => by rw [hd] at q; cases q⟩
  keep := fun i h h' st k => let ⟨hi0, ⟨old, he⟩, hi, hne⟩ := st; ⟨hi0, ⟨old, k e (by simp) _ he⟩, hi.at fun o q => k it (by simp) o q, hne⟩
  item := by
    intro X hP hw hK hc i pins s σ H E I hf st hg
    subst hP hw hK
    obtain ⟨_, ⟨old, he⟩, hit, hne⟩ := st
    obtain ⟨hin, xs, x, hq, hlx, hx⟩ := hg
    obtain ⟨its, rv, p, hz⟩ := I.tuple hq
    obtain ⟨u, hu, ru⟩ := rv.get hx
    have hel : e < s.heap.objs.size := Heap.lt_size he
    have hil : it < s.heap.objs.size := by obtain ⟨_, q, _⟩ := hit; exact Heap.lt_size q
    have hl := rv.length
    have Dr := Draws.tuple (prog := X.prog) (w := X.w) (A := X.A.in1) (I.ok.hd hc) it a hai its.toArray
    refine wpAny_pyNext_enum_itemD Dr he ⟨hit, show s.heap.IsTuple a its.toArray from p⟩ (by rw [List.size_toArray]; omega) hne (by simp [hne, Ne.symm hae]) fun y h' tk hy ho hit' hT hsz hk => ?_
    have ey : y = u := by
      rw [show its.toArray[i]? = some u by simpa using hu] at hy
      exact (Option.some.inj hy).symm
    subst ey
    refine ⟨_, rfl, wpAny_letOwnedTupleGo_enum (s := { s with heap := h', toks := tk + 1 }) ho fun h'' he' sb => ?_⟩
    have hT2 : h''.get? s.heap.objs.size = some { cls := .type "tuple", data := .seq #[.int i tk, y] } := (sb.2 _ (Nat.ne_of_gt hel)).trans hT
    have new : ObjOk X.prog X.w (upd H s.heap.objs.size (.tup [.int (i : Nat), x])) h'' s.heap.objs.size (.tup [.int (i : Nat), x]) :=
      ⟨by show 2 ≤ sizeLine; decide, [.int i tk, y], .cons ⟨_, rfl⟩ (.cons ru .nil), ⟨_, hT2, rfl, _, rfl⟩⟩
    have I1 : L2.Inv X pins σ (upd H s.heap.objs.size (.tup [.int (i : Nat), x])) { s with heap := h'', toks := tk + 1 } :=
      I.turnedNew (ch := [e, it]) (fun b ob hb q => (sb.2 b (fun z => hb (by simp [z]))).trans (hk b ob (fun z => hb (by simp [z])) (fun z => hb (by simp [z])) q)) hf (Nat.le_refl _) new
    refine ⟨.ref s.heap.objs.size, _, I1, rfl, ⟨_, x, rfl, I.hok.fresh (Nat.le_refl _), rfl, fun ys hy => by rw [I.tuple_inj hy hq]; exact hx⟩, ⟨hin, ⟨y, ?_⟩, hit'.1.at fun o q => (sb.2 it (Ne.symm hne)).trans q, hne⟩, fun b hb => ?_⟩
    · have e1 : ((i + 1 : Nat) : Int) = (i : Int) + 1 := by omega
      rw [e1]; exact he'
    · have hb' : b < s.heap.objs.size := by
        have e' : b = e ∨ b = it := by simpa using hb
        rcases e' with z | z
        · rw [z]; exact hel
        · rw [z]; exact hil
      rw [upd_ne (Nat.ne_of_lt hb')]
      exact (hf b hb).1
  done := by
    intro X hP hw hK hc i pins s σ H E I hf st hg
    subst hP hw hK
    obtain ⟨hi, ⟨old, he⟩, hit, hne⟩ := st
    obtain ⟨hni, xs, hq, hx⟩ := hg
    obtain ⟨its, rv, p, hz⟩ := I.tuple hq
    obtain ⟨f0, f1, f2, f3, f4, f5⟩ := hf it (by simp)
    have hl := rv.length
    have Dr := Draws.tuple (prog := X.prog) (w := X.w) (A := X.A.in1) (I.ok.hd hc) it a hai its.toArray
    have ei : i = its.toArray.size := by rw [List.size_toArray]; omega
    exact wpAny_pyNext_enum_endD Dr he ⟨by rw [← ei]; exact hit, show s.heap.IsTuple a its.toArray from p⟩ fun h' eb => ⟨rfl, I.turned (t' := s.toks) (fun b o hb q => eb b o hb q) f0 f1 f3 f4 f5⟩
  self := fun A i s Q E st h => let ⟨_, ⟨_, he⟩, _⟩ := st; wpAny_pyIter_enum he h
def iEnumT (K : PySem.W.Frag) (ta : TA) : TI := fun σ H R => ta σ H fun vs H1 => ∃ a xs, vs = [.ref a] ∧ ((SqL K H1 a xs ∧ R (Ite K a) H1) ∨ (SqT K H1 a xs ∧ R (IteT K a xs.length) H1))
theorem pi_enumT {X : L2.Cx} {e : Expr} {ta : TA} {p pos tpos : Pos} {elts : List Expr} {kk : Nat} (hg : Gl X "enumerate") (hm : X.mg "enumerate" = none) (ha : PA X [e] ta) (hs : starEach [e] X.env = [(false, eval e X.env)]) :
    PI X (.Tuple elts kk tpos) (.Call (.Name "enumerate" p) [e] [] pos) (iEnumT X.K ta) := by
  refine ⟨fun pins s σ H R I h => ?_⟩
  refine Call_ (ld_blt I hg hm boot_enumerate (PyProof.Rows.callWith_type1 (thn (ha.run pos pins s σ H _ I h) fun us s1 ⟨vs, H1, I1, r1, q1⟩ => ?_) hs rfl))
  obtain ⟨a, xs, ex, q⟩ := q1
  subst ex
  cases r1 with
  | cons r rr =>
    cases rr
    cases r
    have fresh2 : ∀ b ∈ [s1.heap.objs.size + 1, s1.heap.objs.size], FpOk X pins H1 b := fun b hb => by
      have e' : b = s1.heap.objs.size + 1 ∨ b = s1.heap.objs.size := by simpa using hb
      have hle : s1.heap.objs.size ≤ b := by
        rcases e' with z | z
        · rw [z]; exact Nat.le_add_right _ _
        · rw [z]; exact Nat.le_refl _
      exact I1.fpOk hle (I1.hok.fresh hle)
    rcases q with ⟨hq, q⟩ | ⟨hq, q⟩
    · obtain ⟨its, rv, p', hz⟩ := I1.list hq
      refine call_enumerate_list p'.isList fun h' he hit hsz hk => wpAny_pyIter_enum he ?_
      have I2 : L2.Inv X pins σ H1 { s1 with heap := h' } := I1.kept (t' := s1.toks) hk
      exact ⟨s1.heap.objs.size + 1, [s1.heap.objs.size + 1, s1.heap.objs.size], _, _, H1, rfl, I2, turn_enum a (s1.heap.objs.size + 1) s1.heap.objs.size, ⟨⟨.none, he⟩, hit, Nat.succ_ne_self _⟩, fresh2, q⟩
    · obtain ⟨its, rv, p', hz⟩ := I1.tuple hq
      obtain ⟨o1, ho1, _⟩ := id p'
      have hal := Heap.lt_size ho1
      refine call_enum_tup (show s1.heap.IsTuple a its.toArray from p') fun h' he hit hsz hk => wpAny_pyIter_enum he ?_
      have I2 : L2.Inv X pins σ H1 { s1 with heap := h' } := I1.kept (t' := s1.toks) hk
      exact ⟨s1.heap.objs.size + 1, [s1.heap.objs.size + 1, s1.heap.objs.size], _, _, H1, rfl, I2, turn_enumT a (s1.heap.objs.size + 1) s1.heap.objs.size xs.length (Nat.ne_of_lt hal) (Nat.ne_of_lt (Nat.lt_succ_of_lt hal)), ⟨Nat.zero_le _, ⟨.none, he⟩, hit, Nat.succ_ne_self _⟩, fresh2, q⟩
/-! ### sources -/
section
variable {K : PySem.W.Frag} {H H' : Hp} {ρ ρ' : List Addr}
def SrcAt (K : PySem.W.Frag) (H : Hp) (ρ : List Addr) : Src → It → Prop
  | .tup xs, J => ∃ a vs, SqT K H a vs ∧ Reps K H ρ xs vs ∧ J = Itt K a
  | .lst n, J => ∃ a, ρ[n]? = some a ∧ J = Itl K a
  | .rng lo n, J => J = Itr lo n
  | .enum (.lst n), J => ∃ a, ρ[n]? = some a ∧ J = Ite K a
  | .enum (.tup xs), J => ∃ a vs, SqT K H a vs ∧ Reps K H ρ xs vs ∧ J = IteT K a vs.length
  | .zip (.tup xs) (.tup ys), J => ∃ a b vs ws, SqT K H a vs ∧ Reps K H ρ xs vs ∧ SqT K H b ws ∧ Reps K H ρ ys ws ∧ J = RZ.ItzT K a b
  | .zip (.lst n) (.lst m), J => ∃ a b, ρ[n]? = some a ∧ ρ[m]? = some b ∧ J = Itz K a b
  | .rev n m, J => ∃ a, ρ[n]? = some a ∧ J = Itv K a m
  | .revT xs, J => ∃ a vs, SqT K H a vs ∧ Reps K H ρ xs vs ∧ J = RT.ItvT K a vs.length
  | _, _ => False
theorem SrcAt.mono (x : Ext H H') (p : Pre ρ ρ') {s : Src} {J : It} (h : SrcAt K H ρ s J) : SrcAt K H' ρ' s J := by
  unfold SrcAt at h ⊢
  split at h
  · obtain ⟨a, vs, h1, h2, h3⟩ := h; exact ⟨a, vs, sqT_ext x h1, h2.mono x p, h3⟩
  · obtain ⟨a, h1, h2⟩ := h; exact ⟨a, p _ _ h1, h2⟩
  · exact h
  · obtain ⟨a, h1, h2⟩ := h; exact ⟨a, p _ _ h1, h2⟩
  · obtain ⟨a, vs, h1, h2, h3⟩ := h; exact ⟨a, vs, sqT_ext x h1, h2.mono x p, h3⟩
  · obtain ⟨a, b, vs, ws, h1, h2, h3, h4, h5⟩ := h; exact ⟨a, b, vs, ws, sqT_ext x h1, h2.mono x p, sqT_ext x h3, h4.mono x p, h5⟩
  · obtain ⟨a, b, h1, h2, h3⟩ := h; exact ⟨a, b, p _ _ h1, p _ _ h2, h3⟩
  · obtain ⟨a, h1, h2⟩ := h; exact ⟨a, p _ _ h1, h2⟩
  · obtain ⟨a, vs, h1, h2, h3⟩ := h; exact ⟨a, vs, sqT_ext x h1, h2.mono x p, h3⟩
  · exact h
/-- the row at a number of the store -/
theorem RepS.row {S : Sto} (r : RepS K H ρ S) {n : Nat} {xs : List D} {a : Addr} (e : Pd.items S (.ref n) = some xs) (ha : ρ[n]? = some a) : ∃ vs, SqL K H a vs ∧ Reps K H ρ xs vs := by
  obtain ⟨b, vs, e1, q, h⟩ := r.items e (show Rep K H ρ (.ref n) (.ref a) by unfold Rep; exact ⟨a, ha, rfl⟩)
  cases e1
  rcases h with ⟨_, _, h⟩ | ⟨h, _⟩
  · exact ⟨vs, h, q⟩
  · cases h
/-- a new pair of what stands there -/
theorem rep_pair {d e : D} {v w : V} {T : Addr} (hT : H T = none) (h1 : Rep K H ρ d v) (h2 : Rep K H ρ e w) : Rep K (upd H T (.tup [v, w])) ρ (.tup [d, e]) (.ref T) := by
  unfold Rep
  exact ⟨T, [v, w], rfl, .inl (.inl upd_same), .cons (h1.mono (.new hT) .refl) (.one (h2.mono (.new hT) .refl))⟩
theorem SrcAt.turn {src : Src} {J : It} {S : Sto} {i : Nat} (h : SrcAt K H ρ src J) (r : RepS K H ρ S) :
    (src.item S i = some none → J.stop i H) ∧ ∀ d, src.item S i = some (some d) → J.go i H ∧ ∀ x H', J.yld i H x H' → Ext H H' ∧ RepS K H' ρ S ∧ Rep K H' ρ d x := by
  unfold SrcAt at h
  split at h
  · rename_i xs
    obtain ⟨a, vs, h1, h2, rfl⟩ := h
    refine ⟨fun e => ⟨vs, h1, ?_⟩, fun d e => ?_⟩
    · have e' : xs[i]? = none := Option.some.inj e
      rw [h2.len]
      exact List.getElem?_eq_none_iff.mp e'
    · have e' : xs[i]? = some d := Option.some.inj e
      obtain ⟨v, e1, e2⟩ := h2.get e'
      refine ⟨⟨vs, v, h1, e1⟩, fun x H' y => ?_⟩
      obtain ⟨rfl, y⟩ := y
      have := y vs h1
      rw [e1] at this
      cases this
      exact ⟨.refl, r, e2⟩
  · rename_i n
    obtain ⟨a, h1, rfl⟩ := h
    refine ⟨fun e => ?_, fun d e => ?_⟩
    · obtain ⟨xs, e1, e2⟩ := Option.map_eq_some_iff.mp (show (items S (.ref n)).map (fun xs => xs[i]?) = some none from e)
      obtain ⟨vs, q1, q2⟩ := r.row e1 h1
      exact ⟨vs, q1, by rw [q2.len]; exact List.getElem?_eq_none_iff.mp e2⟩
    · obtain ⟨xs, e1, e2⟩ := Option.map_eq_some_iff.mp (show (items S (.ref n)).map (fun xs => xs[i]?) = some (some d) from e)
      obtain ⟨vs, q1, q2⟩ := r.row e1 h1
      obtain ⟨v, e3, e4⟩ := q2.get e2
      refine ⟨⟨vs, v, q1, e3⟩, fun x H' y => ?_⟩
      obtain ⟨rfl, y⟩ := y
      have := y vs q1
      rw [e3] at this
      cases this
      exact ⟨.refl, r, e4⟩
  · rename_i lo n
    subst h
    refine ⟨fun e => ?_, fun d e => ?_⟩
    · have e' : (if i < n then some (D.int (lo + (i : Int))) else none) = none := Option.some.inj e
      split at e'
      · cases e'
      · rename_i hi; exact Nat.le_of_not_lt hi
    · have e' : (if i < n then some (D.int (lo + (i : Int))) else none) = some d := Option.some.inj e
      split at e'
      · rename_i hi
        cases e'
        refine ⟨hi, fun x H' y => ?_⟩
        obtain ⟨rfl, rfl⟩ := y
        exact ⟨.refl, r, rep_int'⟩
      · cases e'
  · rename_i n
    obtain ⟨a, h1, rfl⟩ := h
    refine ⟨fun e => ?_, fun d e => ?_⟩
    · have e' : (match (items S (.ref n)).map (fun xs => xs[i]?) with | some (some d) => some (some (D.tup [.int (i : Int), d])) | r => r) = some none := e
      split at e'
      · cases e'
      · obtain ⟨xs, e1, e2⟩ := Option.map_eq_some_iff.mp e'
        obtain ⟨vs, q1, q2⟩ := r.row e1 h1
        exact ⟨vs, q1, by rw [q2.len]; exact List.getElem?_eq_none_iff.mp e2⟩
    · have e' : (match (items S (.ref n)).map (fun xs => xs[i]?) with | some (some d) => some (some (D.tup [.int (i : Int), d])) | r => r) = some (some d) := e
      split at e'
      · rename_i d0 e0
        cases e'
        obtain ⟨xs, e1, e2⟩ := Option.map_eq_some_iff.mp e0
        obtain ⟨vs, q1, q2⟩ := r.row e1 h1
        obtain ⟨v, e3, e4⟩ := q2.get e2
        refine ⟨⟨vs, v, q1, e3⟩, fun x H' y => ?_⟩
        obtain ⟨T, z, rfl, hT, rfl, y⟩ := y
        have := y vs q1
        rw [e3] at this
        cases this
        exact ⟨.new hT, r.lay hT, rep_pair hT rep_int' e4⟩
      · rename_i hno
        exact absurd e' (hno d)
  · rename_i xs
    obtain ⟨a, vs, h1, h2, rfl⟩ := h
    refine ⟨fun e => ?_, fun d e => ?_⟩
    · have e' : (match some xs[i]? with | some (some d) => some (some (D.tup [.int (i : Int), d])) | r => r) = some none := e
      split at e'
      · cases e'
      · have e2 : xs[i]? = none := Option.some.inj e'
        exact ⟨by rw [h2.len]; exact List.getElem?_eq_none_iff.mp e2, vs, h1, rfl⟩
    · have e' : (match some xs[i]? with | some (some d) => some (some (D.tup [.int (i : Int), d])) | r => r) = some (some d) := e
      split at e'
      · rename_i d0 e0
        cases e'
        have e2 : xs[i]? = some d0 := Option.some.inj e0
        obtain ⟨v, e3, e4⟩ := h2.get e2
        refine ⟨⟨(List.getElem?_eq_some_iff.mp e3).1, vs, v, h1, rfl, e3⟩, fun x H' y => ?_⟩
        obtain ⟨T, z, rfl, hT, rfl, y⟩ := y
        have := y vs h1
        rw [e3] at this
        cases this
        exact ⟨.new hT, r.lay hT, rep_pair hT rep_int' e4⟩
      · rename_i hno
        exact absurd e' (hno d)
  · rename_i xs ys
    obtain ⟨a, b, vs, ws, h1, h2, h3, h4, rfl⟩ := h
    refine ⟨fun e => ⟨vs, ws, h1, h3, ?_⟩, fun d e => ?_⟩
    · have e' : (match some xs[i]?, some ys[i]? with | some (some d), some (some e) => some (some (D.tup [d, e])) | some none, some _ => some none | some _, some none => some none | _, _ => none) = some none := e
      rw [h2.len, h4.len]
      cases q1 : xs[i]? with
      | none => exact .inl (List.getElem?_eq_none_iff.mp q1)
      | some d =>
        cases q2 : ys[i]? with
        | none => exact .inr (List.getElem?_eq_none_iff.mp q2)
        | some e => rw [q1, q2] at e'; cases e'
    · have e' : (match some xs[i]?, some ys[i]? with | some (some d), some (some e) => some (some (D.tup [d, e])) | some none, some _ => some none | some _, some none => some none | _, _ => none) = some (some d) := e
      cases q1 : xs[i]? with
      | none => rw [q1] at e'; cases e'
      | some d1 =>
        cases q2 : ys[i]? with
        | none => rw [q1, q2] at e'; cases e'
        | some d2 =>
          rw [q1, q2] at e'
          cases e'
          obtain ⟨v, e3, e4⟩ := h2.get q1
          obtain ⟨w, e5, e6⟩ := h4.get q2
          refine ⟨⟨vs, ws, v, w, h1, h3, e3, e5⟩, fun x H' y => ?_⟩
          obtain ⟨T, z, z2, rfl, hT, rfl, y1, y2⟩ := y
          have k1 := y1 vs h1
          have k2 := y2 ws h3
          rw [e3] at k1
          rw [e5] at k2
          cases k1; cases k2
          exact ⟨.new hT, r.lay hT, rep_pair hT e4 e6⟩
  · rename_i n m
    obtain ⟨a, b, h1, h2, rfl⟩ := h
    refine ⟨fun e => ?_, fun d e => ?_⟩
    · have e' : (match (items S (.ref n)).map (fun xs => xs[i]?), (items S (.ref m)).map (fun xs => xs[i]?) with | some (some d), some (some e) => some (some (D.tup [d, e])) | some none, some _ => some none | some _, some none => some none | _, _ => none) = some none := e
      cases q1 : items S (.ref n) with
      | none => rw [q1] at e'; cases e'
      | some xs =>
        cases q2 : items S (.ref m) with
        | none =>
          rw [q1, q2] at e'
          cases q3 : xs[i]? with
          | none => simp only [Option.map_some, q3, Option.map_none] at e'; cases e'
          | some d => simp only [Option.map_some, q3, Option.map_none] at e'; cases e'
        | some ys =>
          obtain ⟨vs, s1, s2⟩ := r.row q1 h1
          obtain ⟨ws, s3, s4⟩ := r.row q2 h2
          refine ⟨vs, ws, s1, s3, ?_⟩
          rw [s2.len, s4.len]
          cases k1 : xs[i]? with
          | none => exact .inl (List.getElem?_eq_none_iff.mp k1)
          | some d =>
            cases k2 : ys[i]? with
            | none => exact .inr (List.getElem?_eq_none_iff.mp k2)
            | some e => simp only [q1, q2, Option.map_some, k1, k2] at e'; cases e'
    · have e' : (match (items S (.ref n)).map (fun xs => xs[i]?), (items S (.ref m)).map (fun xs => xs[i]?) with | some (some d), some (some e) => some (some (D.tup [d, e])) | some none, some _ => some none | some _, some none => some none | _, _ => none) = some (some d) := e
      cases q1 : items S (.ref n) with
      | none => rw [q1] at e'; cases e'
      | some xs =>
        cases q2 : items S (.ref m) with
        | none =>
          rw [q1, q2] at e'
          cases q3 : xs[i]? with
          | none => simp only [Option.map_some, q3, Option.map_none] at e'; cases e'
          | some d => simp only [Option.map_some, q3, Option.map_none] at e'; cases e'
        | some ys =>
          obtain ⟨vs, s1, s2⟩ := r.row q1 h1
          obtain ⟨ws, s3, s4⟩ := r.row q2 h2
          cases k1 : xs[i]? with
          | none =>
            simp only [q1, q2, Option.map_some, k1] at e'
            cases e'
          | some d1 =>
            cases k2 : ys[i]? with
            | none =>
              simp only [q1, q2, Option.map_some, k1, k2] at e'
              cases e'
            | some d2 =>
              simp only [q1, q2, Option.map_some, k1, k2] at e'
              cases e'
              obtain ⟨v, e3, e4⟩ := s2.get k1
              obtain ⟨w, e5, e6⟩ := s4.get k2
              refine ⟨⟨vs, ws, v, w, s1, s3, e3, e5⟩, fun x H' y => ?_⟩
              obtain ⟨T, z, z2, rfl, hT, rfl, y1, y2⟩ := y
              have l1 := y1 vs s1
              have l2 := y2 ws s3
              rw [e3] at l1
              rw [e5] at l2
              cases l1; cases l2
              exact ⟨.new hT, r.lay hT, rep_pair hT e4 e6⟩
  · rename_i n m
    obtain ⟨a, h1, rfl⟩ := h
    refine ⟨fun e => ?_, fun d e => ?_⟩
    · simp only [Src.item] at e
      split at e
      · split at e
        · split at e <;> cases e
        · cases e
      · rename_i hi; exact Nat.le_of_not_lt hi
    · simp only [Src.item] at e
      split at e
      · rename_i hi
        split at e
        · rename_i xs hxs
          split at e
          · rename_i d0 hd
            cases e
            obtain ⟨vs, s1, s2⟩ := r.row hxs h1
            obtain ⟨v, e3, e4⟩ := s2.get hd
            refine ⟨⟨hi, vs, v, s1, e3⟩, fun x H' y => ?_⟩
            obtain ⟨rfl, y⟩ := y
            have := y vs s1
            rw [e3] at this
            cases this
            exact ⟨.refl, r, e4⟩
          · cases e
        · cases e
      · cases e
  · rename_i xs
    obtain ⟨a, vs, h1, h2, rfl⟩ := h
    refine ⟨fun e => ?_, fun d e => ?_⟩
    · simp only [Src.item] at e
      split at e
      · rename_i hi
        have e' := Option.some.inj e
        have := List.getElem?_eq_none_iff.mp e'
        omega
      · rename_i hi
        show vs.length ≤ i
        rw [h2.len]
        exact Nat.le_of_not_lt hi
    · simp only [Src.item] at e
      split at e
      · rename_i hi
        have e' := Option.some.inj e
        obtain ⟨v, e3, e4⟩ := h2.get e'
        rw [← h2.len] at e3
        refine ⟨⟨by rw [h2.len]; exact hi, vs, v, h1, e3⟩, fun x H' y => ?_⟩
        obtain ⟨rfl, y⟩ := y
        have := y vs h1
        rw [e3] at this
        cases this
        exact ⟨.refl, r, e4⟩
      · cases e
  · exact h.elim
end
end Pd
/-! Which text a term of the small language speaks of. -/
namespace Pd
open PySem
structure GC where
  fns : List (Str × List Str)
  glo : List Str
  free : List Str
  gcd : Bool
  kws : List (Nat × Nat × List Nat)
def dbg (x : Str) : Bool := !(x == ("__debug__" : Str))
def glB (sc : Scope) (x : Str) : Bool := decide (sc.names.lookup x = some .globalImplicit)
def visB (sc : Scope) (x : Str) : Bool := decide (sc.names.lookup x = some .local) || decide (sc.names.lookup x = some .cell) || decide (sc.names.lookup x = some .free)
def freeB (G : GC) (sc : Scope) (x : Str) : Bool := glB sc x && decide (x ∈ G.free) && dbg x && !decide (x = ("__name__" : Str))
def biN : Bi → String
  | .len => "len" | .gcd => "gcd" | .abs => "abs" | .max => "max" | .min => "min" | .int => "int" | .list => "list" | .tuple => "tuple" | .repr => "repr" | .sum => "sum"
def skN : SK → String
  | .seq => "" | .range => "range" | .enum => "enumerate" | .zip => "zip" | .rev => "reversed"
def sOf (x : String) : Str := Str.ofString x
/-- an index whose subscript is the plain one -/
def plainIx : Expr → Bool
  | .Slice .. => false
  | _ => true
/-- a test that is its value's truth -/
def plainT : Expr → Bool
  | .UnaryOp .Not _ _ => false
  | .BoolOp .. => false
  | .IfExp .. => false
  | .Compare .. => false
  | _ => true
def notStar : Expr → Bool
  | .Starred .. => false
  | _ => true
/-- no comprehension -/
def notLc : Expr → Bool
  | .ListComp .. => false
  | .SetComp .. => false
  | .DictComp .. => false
  | _ => true
def notSet : Expr → Bool
  | .Set .. => false
  | _ => true
def keyStrs : List (Option Expr) → List Str → Bool
  | [], [] => true
  | some (.Constant (.str x) _ _) :: r, k :: ks => decide (x = k) && keyStrs r ks
  | _, _ => false
/-! ### targets -/
mutual
def mtTg (N : List Str) (sc : Scope) (fn : Str → Bool) : Tg → Expr → Bool
  | .nm i, .Name x _ => decide (N[i]? = some x) && (decide (sc.names.lookup x = some .local) || (decide (sc.names.lookup x = some .cell) && fn x))
  | .tp ts, .Tuple es _ _ => mtTgs N sc fn ts es
  | _, _ => false
def mtTgs (N : List Str) (sc : Scope) (fn : Str → Bool) : List Tg → List Expr → Bool
  | [], [] => true
  | t :: ts, e :: es => notStar e && mtTg N sc fn t e && mtTgs N sc fn ts es
  | _, _ => false
end
mutual
def slots : Tg → List Nat
  | .nm i => [i]
  | .tp ts => slotss ts
def slotss : List Tg → List Nat
  | [] => []
  | t :: ts => slots t ++ slotss ts
end
def ownOf (N : List Str) (own : List Nat) : List (Str × Nat) := own.map fun i => (N.getD i Str.empty, i)
def isTupE : Expr → Bool
  | .Tuple .. => true
  | _ => false
/-- [::-1] -/
def backB : Expr → Bool
  | .Slice none none (some (.UnaryOp .USub (.Constant (.int i) _ _) _)) _ => decide (i = 1)
  | _ => false
/-- what is walked: the expressions that are asked -/
def srcOf (G : GC) (sc : Scope) (k : SK) (tgt iter : Expr) : Option (List Expr) := match k with
  | .seq => if notSet iter = true then some [iter] else none
  | k => match iter with
    | .Call (.Name f _) vs [] _ => if (decide (f = sOf (skN k)) && freeB G sc f && (match k with
      | .range => decide (vs.length = 1) || decide (vs.length = 2)
      | .enum => isTupE tgt && decide (vs.length = 1)
      | .zip => isTupE tgt && decide (vs.length = 2)
      | .rev => decide (vs.length = 1)
      | .seq => false)) = true then some vs else none
    | _ => none
/-! ### expressions, tests -/
mutual
def mtE (G : GC) (N : List Str) (sc : Scope) : IE → Expr → Bool
  | .slot i, .Name x _ => decide (N[i]? = some x) && visB sc x && dbg x && !(x == ("__classdict__" : Str))
  | .cst (.int i), .Constant (.int j) _ _ => decide (i = j)
  | .cst (.bl i), .Constant (.bool j) _ _ => decide (i = j)
  | .cst (.str i), .Constant (.str j) _ _ => decide (i = j)
  | .cst .non, .Constant .none _ _ => true
  | .glo i, .Name x _ => decide (G.glo[i]? = some x) && glB sc x && dbg x
  | .tup es, .Tuple vs _ _ => mtL G N sc es vs
  | .lst es, .List vs _ => mtL G N sc es vs
  | .dic ks es, .Dict keys vs _ => keyStrs keys ks && decide (keys.length = vs.length) && !keys.isEmpty && decide (keys.length ≤ 15) && decide ks.Nodup && mtL G N sc es vs
  | .bin op a b, .BinOp l o r _ => decide (o = opOf op) && mtE G N sc a l && mtE G N sc b r
  | .neg a, .UnaryOp .USub x _ => mtE G N sc a x
  | .not t, .UnaryOp .Not x _ => mtE G N sc t x
  | .and es, .BoolOp .And vs _ => mtL G N sc es vs
  | .or es, .BoolOp .Or vs _ => mtL G N sc es vs
  | .cmp op a b, .Compare l [o] [r] _ => decide (o = cmpOf op) && !behindInMarks o r && mtE G N sc a l && mtE G N sc b r
  | .chain op op' a b c, .Compare l [o, o'] [m, r] _ => decide (o = cmpOf op) && decide (o' = cmpOf op') && !behindInMarks o' r && mtE G N sc a l && mtE G N sc b m && mtE G N sc c r
  | .ifx t a b, .IfExp c x y _ => mtT G N sc t c && mtE G N sc a x && mtE G N sc b y
  | .isi a [t], .Call (.Name f _) [x, .Name y _] [] _ => decide (f = sOf "isinstance") && freeB G sc f && decide (y = sOf (tyS t)) && freeB G sc y && notStar x && mtE G N sc a x
  | .bi .gcd es, .Call (.Name f _) vs [] _ => decide (f = sOf "gcd") && glB sc f && G.gcd && dbg f && !vs.isEmpty && mtL G N sc es vs
  | .bi b es, .Call (.Name f _) vs [] _ => decide (f = sOf (biN b)) && freeB G sc f && !vs.isEmpty && mtL G N sc es vs
  | .call f es, .Call (.Name x _) vs [] _ => (match G.fns[f]? with
    | some p => decide (p.1 = x)
    | none => false) && glB sc x && dbg x && mtL G N sc es vs
  | .callk f es ks ws, .Call (.Name x _) vs kws _ => (match G.fns[f]? with
    | some p => decide (p.1 = x) && mtK G N sc p.2 ks ws kws && decide ((f, es.length, ks) ∈ G.kws)
    | none => false) && glB sc x && dbg x && !kws.isEmpty && mtL G N sc es vs
  | .idx a i, .Subscript x y _ => plainIx y && mtE G N sc a x && mtE G N sc i y
  | .slc a lo hi, .Subscript x (.Slice l h none _) _ => mtE G N sc a x && mtO G N sc lo l && mtO G N sc hi h
  | .back a, .Subscript x y _ => backB y && mtE G N sc a x
  | .append a e, .Call (.Attribute (.Name o op) m ap) [x] [] cp => decide (m = sOf "append") && (ap.endLine == cp.line) && notStar x && mtE G N sc a (.Name o op) && mtE G N sc e x
  | .extend a e, .Call (.Attribute (.Name o op) m ap) [x] [] cp => decide (m = sOf "extend") && (ap.endLine == cp.line) && notStar x && mtE G N sc a (.Name o op) && mtE G N sc e x
  | .pop a, .Call (.Attribute (.Name o op) m ap) [] [] cp => decide (m = sOf "pop") && (ap.endLine == cp.line) && mtE G N sc a (.Name o op)
  | .lc own tg k es cs e, .ListComp elt [⟨tgt, iter, ifs, z⟩] scope _ => decide (z = 0) && L2.blkC N sc scope (ownOf N own) && mtTg N (L2.relS scope sc) (fun x => scope.names.lookup x == some .cell) tg tgt && (slots tg).all (fun i => decide (i ∈ own)) &&
      (match srcOf G sc k tgt iter with
      | some vs => mtL G N sc es vs
      | none => false) && mtTs G N (L2.relS scope sc) cs ifs && mtE G N (L2.relS scope sc) e elt
  | _, _ => false
def mtL (G : GC) (N : List Str) (sc : Scope) : List IE → List Expr → Bool
  | [], [] => true
  | a :: as, e :: es => notStar e && mtE G N sc a e && mtL G N sc as es
  | _, _ => false
def mtO (G : GC) (N : List Str) (sc : Scope) : Option IE → Option Expr → Bool
  | none, none => true
  | some a, some e => mtE G N sc a e
  | _, _ => false
def mtK (G : GC) (N : List Str) (sc : Scope) (ps : List Str) : List Nat → List IE → List Keyword → Bool
  | [], [], [] => true
  | k :: ks, a :: as, ⟨some n, e, _⟩ :: kws => decide (ps[k]? = some n) && mtE G N sc a e && mtK G N sc ps ks as kws
  | _, _, _ => false
def mtT (G : GC) (N : List Str) (sc : Scope) : IT → Expr → Bool
  | .val a, e => plainT e && mtE G N sc a e
  | .not t, .UnaryOp .Not x _ => mtT G N sc t x
  | .and ts, .BoolOp .And vs _ => mtTL G N sc ts vs
  | .or ts, .BoolOp .Or vs _ => mtTL G N sc ts vs
  | .cmp op a b, .Compare l [o] [r] _ => decide (o = cmpOf op) && !behindInMarks o r && mtE G N sc a l && mtE G N sc b r
  | .chain op op' a b c, .Compare l [o, o'] [m, r] _ => decide (o = cmpOf op) && decide (o' = cmpOf op') && !behindInMarks o' r && mtE G N sc a l && mtE G N sc b m && mtE G N sc c r
  | _, _ => false
def mtTL (G : GC) (N : List Str) (sc : Scope) : List IT → List Expr → Bool
  | [], [] => true
  | t :: ts, e :: es => mtT G N sc t e && mtTL G N sc ts es
  | _, _ => false
/-- a comprehension's tests: none or one -/
def mtTs (G : GC) (N : List Str) (sc : Scope) : List IT → List Expr → Bool
  | [], [] => true
  | [t], [e] => mtT G N sc t e
  | _, _ => false
end
/-! ### statements -/
def nmS : Expr → Option Str
  | .Name x _ => some x
  | _ => none
def linesB (l : Nat) : List Expr → Bool
  | [] => true
  | e :: es => decide (e.pos.line = l) && linesB l es
/-- the stores of a tuple's parts are exchanged -/
def parB (sc : Scope) (ts vs : List Expr) : Bool :=
  (decide (ts.length = 2) || decide (ts.length = 3)) && decide (vs.length = ts.length) && ts.all (fun e => match e with
    | .Name x _ => decide (sc.names.lookup x = some .local)
    | _ => false) && linesB ((ts.head?.map (·.pos.line)).getD 0) ts && decide (ts.filterMap nmS).Nodup && vs.all notStar && !vs.all (foldedForSure 8) && !vs.all (constantsAlone 8)
/-- they are not -/
def noParB (sc : Scope) (ts vs : List Expr) : Bool :=
  !(decide (ts.length = 2) || decide (ts.length = 3)) || !decide (vs.length = ts.length) || !ts.all (fun e => match e with
    | .Name x _ => decide (sc.names.lookup x = some .local)
    | _ => false) || vs.all (foldedForSure 8)
def lcSw (sc : Scope) (t : Str) (tl vl : Nat) (scope : Scope) : Bool := decide (sc.names.lookup t = some .local) && (tl == vl) && !(scope.names.any fun (n, k) => n == t && (k == .local || k == .cell))
def setB (G : GC) (N : List Str) (sc : Scope) (t : Tg) (e : IE) : Expr → Expr → Bool
  | .Name x p, .ListComp elt gens scope q => mtE G N sc e (.ListComp elt gens scope q) && mtTg N sc (fun _ => true) t (.Name x p) && (decide (sc.names.lookup x = some .local))
  | .Tuple ts k p, .Tuple vs k2 p2 => noParB sc ts vs && vs.all notStar && mtE G N sc e (.Tuple vs k2 p2) && mtTg N sc (fun _ => true) t (.Tuple ts k p)
  | .Tuple ts k p, v => notLc v && mtE G N sc e v && mtTg N sc (fun _ => true) t (.Tuple ts k p)
  | .Name x p, v => notLc v && mtE G N sc e v && mtTg N sc (fun _ => true) t (.Name x p)
  | _, _ => false
mutual
def mtSt (G : GC) (N : List Str) (sc : Scope) : IS → Stmt → Bool
  | .set t e, .Assign [tg] v _ => setB G N sc t e tg v
  | .par is es, .Assign [.Tuple ts _ _] (.Tuple vs _ _) _ => parB sc ts vs && mtTgs N sc (fun _ => true) (is.map .nm) ts && mtL G N sc es vs
  | .setix o i e, .Assign [.Subscript x y _] v _ => notLc v && plainIx y && mtE G N sc o x && mtE G N sc i y && mtE G N sc e v
  | .ex e, .Expr v _ => notLc v && mtE G N sc e v
  | .ret e, .Return (some v) _ => mtE G N sc e v
  | .retN, .Return none _ => true
  | .iff c a b, .If t x y _ => mtT G N sc c t && mtB G N sc a x && mtB G N sc b y
  | .loop tg k es body, .For tgt iter x [] _ => mtTg N sc (fun _ => true) tg tgt && (match srcOf G sc k tgt iter with
    | some vs => mtL G N sc es vs
    | none => false) && mtB G N sc body x
  | .whil c body, .While t x [] _ => mtT G N sc c t && mtB G N sc body x
  | .pass, .Pass _ => true
  | .pass, .Expr (.Constant (.str _) _ _) _ => true
  | .brk, .Break _ => true
  | .cont, .Continue _ => true
  | .never, _ => true
  | _, _ => false
def mtB (G : GC) (N : List Str) (sc : Scope) : List IS → List Stmt → Bool
  | [], [] => true
  | a :: as, s :: ss => mtSt G N sc a s && mtB G N sc as ss
  | _, _ => false
end
end Pd
/-! Readings; a def's promise; calls. -/
namespace Pd
open PySem PySem.Spec PyProof.Rows L2
/-! ### readings -/
def rE (K : PySem.W.Frag) (f : Env → Sto → Out D) : TE := fun σ H Q => ∃ ρ S env d S', RepS K H ρ S ∧ RepE K H ρ env σ ∧ f env S = .ok d S' ∧ Goal K H ρ d S' Q
def rT (K : PySem.W.Frag) (f : Env → Sto → Out Bool) : TT := fun σ H Q => ∃ ρ S env b S', RepS K H ρ S ∧ RepE K H ρ env σ ∧ f env S = .ok b S' ∧ ∀ ρ' H', Pre ρ ρ' → Ext H H' → RepS K H' ρ' S' → Q b H'
def rA (K : PySem.W.Frag) (f : Env → Sto → Out (List D)) : TA := fun σ H Q => ∃ ρ S env ds S', RepS K H ρ S ∧ RepE K H ρ env σ ∧ f env S = .ok ds S' ∧ ∀ ρ' H' vs, Pre ρ ρ' → Ext H H' → RepS K H' ρ' S' → Reps K H' ρ' ds vs → Q vs H'
def rO (K : PySem.W.Frag) (f : Env → Sto → Out (Option Int)) : TO := fun σ H Q => ∃ ρ S env o S', RepS K H ρ S ∧ RepE K H ρ env σ ∧ f env S = .ok o S' ∧ ∀ ρ' H', Pre ρ ρ' → Ext H H' → RepS K H' ρ' S' → Q o H'
theorem goal_later {K : PySem.W.Frag} {H H1 : Hp} {ρ ρ1 : List Addr} {d : D} {S' : Sto} {Q : VK} (g : Goal K H ρ d S' Q) (p : Pre ρ ρ1) (x : Ext H H1) : Goal K H1 ρ1 d S' Q := fun ρ' H' v p' x' r h => g ρ' H' v (p.trans p') (x.trans x') r h
section
variable {K : PySem.W.Frag} {σ : L2.St} {H : Hp} {ρ : List Addr} {S : Sto} {env : Env}
/-- one part, then the rest -/
theorem rE_bind {f : Env → Sto → Out D} {β : Type} {k : D → Sto → Out β} {b : β} {T : Sto} {Q : VK} (r : RepS K H ρ S) (re : RepE K H ρ env σ) (e : (f env S).bind k = .ok b T)
    (q : ∀ d S1 ρ1 H1 v, k d S1 = .ok b T → Pre ρ ρ1 → Ext H H1 → RepS K H1 ρ1 S1 → RepE K H1 ρ1 env σ → Rep K H1 ρ1 d v → Q v H1) : rE K f σ H Q := by
  obtain ⟨d, S1, e1, e2⟩ := out_bind e
  exact ⟨ρ, S, env, d, S1, r, re, e1, fun ρ' H' v p x r' h => q d S1 ρ' H' v e2 p x r' (re.mono x p) h⟩
theorem rT_bind {f : Env → Sto → Out Bool} {β : Type} {k : Bool → Sto → Out β} {b : β} {T : Sto} {Q : Bool → Hp → Prop} (r : RepS K H ρ S) (re : RepE K H ρ env σ) (e : (f env S).bind k = .ok b T)
    (q : ∀ c S1 ρ1 H1, k c S1 = .ok b T → Pre ρ ρ1 → Ext H H1 → RepS K H1 ρ1 S1 → RepE K H1 ρ1 env σ → Q c H1) : rT K f σ H Q := by
  obtain ⟨d, S1, e1, e2⟩ := out_bind e
  exact ⟨ρ, S, env, d, S1, r, re, e1, fun ρ' H' p x r' => q d S1 ρ' H' e2 p x r' (re.mono x p)⟩
theorem rA_bind {f : Env → Sto → Out (List D)} {β : Type} {k : List D → Sto → Out β} {b : β} {T : Sto} {Q : List V → Hp → Prop} (r : RepS K H ρ S) (re : RepE K H ρ env σ) (e : (f env S).bind k = .ok b T)
    (q : ∀ ds S1 ρ1 H1 vs, k ds S1 = .ok b T → Pre ρ ρ1 → Ext H H1 → RepS K H1 ρ1 S1 → RepE K H1 ρ1 env σ → Reps K H1 ρ1 ds vs → Q vs H1) : rA K f σ H Q := by
  obtain ⟨d, S1, e1, e2⟩ := out_bind e
  exact ⟨ρ, S, env, d, S1, r, re, e1, fun ρ' H' v p x r' h => q d S1 ρ' H' v e2 p x r' (re.mono x p) h⟩
theorem rO_bind {f : Env → Sto → Out (Option Int)} {β : Type} {k : Option Int → Sto → Out β} {b : β} {T : Sto} {Q : Option Int → Hp → Prop} (r : RepS K H ρ S) (re : RepE K H ρ env σ) (e : (f env S).bind k = .ok b T)
    (q : ∀ c S1 ρ1 H1, k c S1 = .ok b T → Pre ρ ρ1 → Ext H H1 → RepS K H1 ρ1 S1 → RepE K H1 ρ1 env σ → Q c H1) : rO K f σ H Q := by
  obtain ⟨d, S1, e1, e2⟩ := out_bind e
  exact ⟨ρ, S, env, d, S1, r, re, e1, fun ρ' H' p x r' => q d S1 ρ' H' e2 p x r' (re.mono x p)⟩
end
/-! ### a def's promise -/
structure FnG (P : Program) (w : World) (K : PySem.W.Frag) (mg : Str → Option Value) (base : Heap) (k : Nat) (f : Addr) (fd : FuncData) (ps : List Str) (sp : Sp) : Prop where
  len : ∀ vs H Q E, sp vs H Q E → vs.length = ps.length
  run : ∀ (A : Around) (outer : List PySem.Env) (s : Shared) (H : Hp) (args : Args) (us : List Value) (vs : List V) (Q : VK), Room k A → A.guards = some [] → Env0 P w K mg base A outer s H → BindsTo s fd args (ps.zip us) → Vals vs us → sp vs H Q E0 →
    codeAny (model P w) A (.call (.ref f) args) (CR CX0 outer P w H s Q E0) s
def spI (K : PySem.W.Frag) (T : Tab) (n f : Nat) : Sp := fun vs H Q _ => ∃ ρ S ds lo d S', RepS K H ρ S ∧ Reps K H ρ ds vs ∧ run T n f lo ds S = .ok d S' ∧ Goal K H ρ d S' Q
/-- the keyword calls that are made: the def, how many arguments by place, the others' parameters -/
structure FnF (G : GC) (T : Tab) (n : Nat) (X : L2.Cx) (f : Nat) (nm : Str) (ps : List Str) : Prop where
  np : ∃ fn, T.fns[f]? = some fn ∧ fn.np = ps.length
  at_ : ∃ a fd, X.mg nm = some (.ref a) ∧ PySem.W.keepIn X.K (.ref a) = true ∧ (∀ (s : Shared) (us : List Value), us.length = ps.length → BindsTo s fd ⟨us, []⟩ (ps.zip us)) ∧
    (∀ (m : Nat) (ks : List Nat), (f, m, ks) ∈ G.kws → ∀ (s : Shared) (us ws xs : List Value), us.length = m → ws.length = ks.length → fill us ks ws ps.length 0 = some xs → BindsTo s fd ⟨us, (ks.map fun k => ps.getD k Str.empty).zip ws⟩ (ps.zip xs)) ∧
    FnG X.prog X.w X.K X.mg X.base n a fd ps (spI X.K T n f)
def npOf (T : Tab) (g : Nat) : Nat := match T.fns[g]? with
  | some fn => fn.np
  | none => 0
structure Ok (G : GC) (T : Tab) (n : Nat) (C : Pd.Cx) (X : L2.Cx) : Prop where
  cal : C.cal = Pd.run T n
  glo : C.glo = T.glo
  np : C.np = npOf T
  fn : ∀ f nm ps, G.fns[f]? = some (nm, ps) → FnF G T n X f nm ps
  gl : ∀ (i : Nat) (nm : Str) (d : D), G.glo[i]? = some nm → T.glo[i]? = some d → ∃ u v, X.mg nm = some u ∧ RelV v u ∧ ∀ H ρ, Rep X.K H ρ d v
  free : ∀ x ∈ G.free, X.mg x = none
  gcd : G.gcd = true → X.mg "gcd" = some (.builtin "math.gcd")
  room : Room n X.A
  guards : X.A.guards = some []
  calm : X.calm = true
  nd : X.N.Nodup
  nox : X.xe = fun _ _ => False
theorem star_cons {e : Expr} {es : List Expr} {env : PySem.Env} (h : notStar e = true) : starEach (e :: es) env = (false, eval e env) :: starEach es env := by
  cases e <;> first | rfl | cases h
def noStars : List Expr → Bool
  | [] => true
  | e :: es => notStar e && noStars es
theorem star_any {pos : Pos} {env : PySem.Env} : ∀ {es : List Expr}, noStars es = true → (backTo pos (starEach es env)).any (·.1) = false
  | [], _ => rfl
  | e :: es, h => by
    obtain ⟨h1, h2⟩ := Bool.and_eq_true_iff.mp h
    rw [star_cons h1]
    show (false || (backTo pos (starEach es env)).any (·.1)) = false
    rw [star_any h2]
    rfl
theorem mtL_stars {G : GC} {N : List Str} {sc : Scope} : ∀ {as : List IE} {es : List Expr}, mtL G N sc as es = true → noStars es = true ∧ as.length = es.length
  | [], [], _ => ⟨rfl, rfl⟩
  | [], _ :: _, h => absurd h Bool.false_ne_true
  | _ :: _, [], h => absurd h Bool.false_ne_true
  | a :: as, e :: es, h => by
    have h' : (notStar e && mtE G N sc a e && mtL G N sc as es) = true := h
    simp only [Bool.and_eq_true] at h'
    obtain ⟨⟨h1, _⟩, h2⟩ := h'
    obtain ⟨h3, h4⟩ := mtL_stars h2
    exact ⟨by show (notStar e && noStars es) = true; rw [h1, h3]; rfl, by rw [List.length_cons, List.length_cons, h4]⟩
section
variable {X : L2.Cx} {k : Nat} {f : Addr} {fd : FuncData} {ps : List Str} {sp : Sp} {x : Str} {p pos : Pos} {es : List Expr} {t : TA}
theorem run_fnG {pins : List (Addr × Obj)} {σ : L2.St} {H : Hp} {s : Shared} {Q : VK} {args : Args} {us : List Value} {vs : List V} (F : FnG X.prog X.w X.K X.mg X.base k f fd ps sp) (hr : Room k X.A) (hg : X.A.guards = some []) 
    (hb : BindsTo s fd args (ps.zip us)) (I : L2.Inv X pins σ H s) (r : Vals vs us) (h : sp vs H Q E0) : wpAny (model X.prog X.w) X.A (call (.ref f) args.pos args.kw) (EP X pins σ Q) X.xe s := by
  obtain ⟨ap, ak⟩ := args
  refine wpAny_call (codeAny_mono (F.run X.A X.stack s H ⟨ap, ak⟩ us vs Q hr hg I.env0 hb r h) fun r s' hq => ?_)
  cases r with
  | error e => exact False.elim hq
  | ok fl =>
    cases fl with
    | ret u => exact I.after hq
    | next => exact False.elim hq
    | brk => exact False.elim hq
    | cont => exact False.elim hq
def tCallG (sp : Sp) (t : TA) : TE := fun σ H Q => t σ H fun vs H1 => sp vs H1 Q E0
theorem pe_callG0 (F : FnG X.prog X.w X.K X.mg X.base k f fd ps sp) (hr : Room k X.A) (hgu : X.A.guards = some []) (hg : Gl X x) (hm : X.mg x = some (.ref f)) (hk : PySem.W.keepIn X.K (.ref f) = true)
    (hb : ∀ (s : Shared) (us : List Value), us.length = ps.length → BindsTo s fd ⟨us, []⟩ (ps.zip us)) (hdb : (x == ("__debug__" : Str)) = false) : PE X (.Call (.Name x p) [] [] pos) (tCallG sp tNil) := by
  refine ⟨fun pins s σ H Q I h => ?_⟩
  refine wpAny_Call_Name_kw (ld_glob I hg hm ?_ hdb)
  exact PySem.W.callWith_K0 I.kIn hk (run_fnG (args := ⟨[], []⟩) F hr hgu (hb s [] (F.len _ _ _ _ h)) I .nil h)
theorem pe_callG {e : Expr} (F : FnG X.prog X.w X.K X.mg X.base k f fd ps sp) (hr : Room k X.A) (hgu : X.A.guards = some []) (hg : Gl X x) (hm : X.mg x = some (.ref f)) (hk : PySem.W.keepIn X.K (.ref f) = true)
    (hb : ∀ (s : Shared) (us : List Value), us.length = ps.length → BindsTo s fd ⟨us, []⟩ (ps.zip us)) (ha : PA X (e :: es) t) (hdb : (x == ("__debug__" : Str)) = false) (hst : noStars (e :: es) = true) : PE X (.Call (.Name x p) (e :: es) [] pos) (tCallG sp t) := by
  refine ⟨fun pins s σ H Q I h => ?_⟩
  refine wpAny_Call_Name_kw (ld_glob I hg hm ?_ hdb)
  obtain ⟨h1, h2⟩ := Bool.and_eq_true_iff.mp (show (notStar e && noStars es) = true from hst)
  refine PySem.W.callWith_K (h₀ := X.base) I.ok.mod.kin hk (thn (ha.run pos pins s σ H _ I h) fun us s1 ⟨vs, H1, I1, r, q⟩ => ⟨I1.kIn, ?_⟩) (star_cons h1) (star_any h2)
  exact run_fnG (args := ⟨us, []⟩) F hr hgu (hb s1 us (by rw [← r.length]; exact F.len _ _ _ _ q)) I1 r q
/-- by names -/
def tCallGK (sp : Sp) (pk : List V → List V → Option (List V)) (t tk : TA) : TE := fun σ H Q => t σ H fun vs H1 => tk σ H1 fun zs H2 => ∃ ys, pk vs zs = some ys ∧ sp ys H2 Q E0
theorem pe_callGK {kws : List Keyword} {ks : List Str} {tk : TA} {e : Expr} {pk : List V → List V → Option (List V)} (F : FnG X.prog X.w X.K X.mg X.base k f fd ps sp) (hr : Room k X.A) (hgu : X.A.guards = some []) (hg : Gl X x) (hm : X.mg x = some (.ref f)) (hk : PySem.W.keepIn X.K (.ref f) = true)
    (hb : ∀ (s : Shared) (us ws : List Value) (vs zs ys : List V), Vals vs us → Vals zs ws → us.length = (e :: es).length → ws.length = kws.length → pk vs zs = some ys → ∃ xs, Vals ys xs ∧ (xs.length = ps.length → BindsTo s fd ⟨us, ks.zip ws⟩ (ps.zip xs)))
    (ha : PA X (e :: es) t) (hkw : PK X kws tk) (hall : (backToKw pos (keywordEach kws X.env)).all (·.1.isSome) = true) (hks : (backToKw pos (keywordEach kws X.env)).filterMap (·.1) = ks) (hno : (backToKw pos (keywordEach kws X.env)).any (·.1.isNone) = false)
    (hdb : (x == ("__debug__" : Str)) = false) (hst : noStars (e :: es) = true)
    (hl1 : ∀ σ H Q, t σ H Q → t σ H fun vs H1 => vs.length = (e :: es).length ∧ Q vs H1) (hl2 : ∀ σ H Q, tk σ H Q → tk σ H fun vs H1 => vs.length = kws.length ∧ Q vs H1) : PE X (.Call (.Name x p) (e :: es) kws pos) (tCallGK sp pk t tk) := by
  refine ⟨fun pins s σ H Q I h => ?_⟩
  refine wpAny_Call_Name_kw (ld_glob I hg hm ?_ hdb)
  obtain ⟨h1, h2⟩ := Bool.and_eq_true_iff.mp (show (notStar e && noStars es) = true from hst)
  refine PySem.W.callWith_KW (h₀ := X.base) I.ok.mod.kin hk hall (thn (ha.run pos pins s σ H _ I (hl1 _ _ _ h)) fun us s1 ⟨vs, H1, I1, r, lv, q⟩ => ?_) ?_ (star_cons h1)
  · refine thn (hkw.run pos pins s1 σ H1 _ I1 (hl2 _ _ _ q)) fun ws s2 ⟨zs, H2, I2, rz, lz, ys, q2, q3⟩ => ⟨I2.kIn, ?_⟩
    rw [hks]
    obtain ⟨xs, rx, hx⟩ := hb s2 us ws vs zs ys r rz (by rw [← r.length]; exact lv) (by rw [← rz.length]; exact lz) q2
    exact run_fnG (args := ⟨us, ks.zip ws⟩) F hr hgu (hx (by rw [← rx.length]; exact F.len _ _ _ _ q3)) I2 rx q3
  · rw [hno, star_cons h1]
    show ((false || (backTo pos (starEach es X.env)).any (·.1)) || false) = false
    rw [star_any h2]
    rfl
theorem pe_callGK0 {kws : List Keyword} {ks : List Str} {tk : TA} {pk : List V → List V → Option (List V)} (F : FnG X.prog X.w X.K X.mg X.base k f fd ps sp) (hr : Room k X.A) (hgu : X.A.guards = some []) (hg : Gl X x) (hm : X.mg x = some (.ref f)) (hk : PySem.W.keepIn X.K (.ref f) = true)
    (hb : ∀ (s : Shared) (us ws : List Value) (vs zs ys : List V), Vals vs us → Vals zs ws → us.length = 0 → ws.length = kws.length → pk vs zs = some ys → ∃ xs, Vals ys xs ∧ (xs.length = ps.length → BindsTo s fd ⟨us, ks.zip ws⟩ (ps.zip xs)))
    (hkw : PK X kws tk) (hall : (backToKw pos (keywordEach kws X.env)).all (·.1.isSome) = true) (hks : (backToKw pos (keywordEach kws X.env)).filterMap (·.1) = ks) (hno : (backToKw pos (keywordEach kws X.env)).any (·.1.isNone) = false)
    (hdb : (x == ("__debug__" : Str)) = false) 
    (hl2 : ∀ σ H Q, tk σ H Q → tk σ H fun vs H1 => vs.length = kws.length ∧ Q vs H1) : PE X (.Call (.Name x p) [] kws pos) (tCallGK sp pk tNil tk) := by
  refine ⟨fun pins s σ H Q I h => ?_⟩
  refine wpAny_Call_Name_kw (ld_glob I hg hm ?_ hdb)
  refine PySem.W.callWith_KW0 (h₀ := X.base) I.ok.mod.kin hk hall (thn (hkw.run pos pins s σ H _ I (hl2 _ _ _ h)) fun ws s2 ⟨zs, H2, I2, rz, lz, ys, q2, q3⟩ => ⟨I2.kIn, ?_⟩) ?_
  · rw [hks]
    obtain ⟨xs, rx, hx⟩ := hb s2 [] ws [] zs ys .nil rz rfl (by rw [← rz.length]; exact lz) q2
    exact run_fnG (args := ⟨[], ks.zip ws⟩) F hr hgu (hx (by rw [← rx.length]; exact F.len _ _ _ _ q3)) I2 rx q3
  · rw [hno]
    rfl
end
theorem look_vals {p : Nat} {y : V} : ∀ {ks : List Nat} {zs : List V} {ws : List Value}, Vals zs ws → (ks.zip zs).lookup p = some y → ∃ u, (ks.zip ws).lookup p = some u ∧ RelV y u
  | _, _, _, .nil, h => by rw [List.zip_nil_right] at h; cases h
  | [], _, _, .cons _ _, h => by cases h
  | k :: ks, _, _, .cons r1 r2, h => by
    rw [List.zip_cons_cons, List.lookup_cons] at h ⊢
    by_cases q : (p == k) = true
    · rw [q] at h ⊢
      obtain rfl := Option.some.inj h
      exact ⟨_, rfl, r1⟩
    · rw [Bool.not_eq_true] at q
      rw [q] at h ⊢
      exact look_vals r2 h
theorem get_vals {y : V} : ∀ {p : Nat} {zs : List V} {ws : List Value}, Vals zs ws → zs[p]? = some y → ∃ u, ws[p]? = some u ∧ RelV y u
  | _, _, _, .nil, h => by cases h
  | 0, _, _, .cons r1 _, h => by obtain rfl := Option.some.inj h; exact ⟨_, rfl, r1⟩
  | p + 1, _, _, .cons _ r2, h => get_vals (p := p) r2 h
theorem fill_vals {vs zs : List V} {us ws : List Value} (r : Vals vs us) (rz : Vals zs ws) {ks : List Nat} : ∀ {m p : Nat} {ys : List V}, fill vs ks zs m p = some ys → ∃ xs, fill us ks ws m p = some xs ∧ Vals ys xs
  | 0, p, ys, h => by obtain rfl := Option.some.inj h; exact ⟨[], rfl, .nil⟩
  | m + 1, p, ys, h => by
    unfold fill at h ⊢
    have key : ∀ y, (if p < vs.length then vs[p]? else (ks.zip zs).lookup p) = some y → ∃ u, (if p < us.length then us[p]? else (ks.zip ws).lookup p) = some u ∧ RelV y u := by
      intro y hy
      rw [← r.length]
      by_cases c : p < vs.length
      · rw [if_pos c] at hy ⊢
        exact get_vals r hy
      · rw [if_neg c] at hy ⊢
        exact look_vals rz hy
    split at h
    · rename_i y hy
      obtain ⟨u, hu, ru⟩ := key y hy
      rw [hu]
      obtain ⟨ys2, h2, rfl⟩ := Option.map_eq_some_iff.mp h
      obtain ⟨xs, h3, r3⟩ := fill_vals r rz h2
      exact ⟨u :: xs, by show Option.map _ _ = _; rw [h3]; rfl, .cons ru r3⟩
    · cases h
theorem look_reps {K : PySem.W.Frag} {H : Hp} {ρ : List Addr} {p : Nat} {y : D} : ∀ {ks : List Nat} {us : List D} {zs : List V}, Reps K H ρ us zs → (ks.zip us).lookup p = some y → ∃ u, (ks.zip zs).lookup p = some u ∧ Rep K H ρ y u
  | _, [], _, _, h => by rw [List.zip_nil_right] at h; cases h
  | [], _ :: _, _, _, h => by cases h
  | k :: ks, d :: us, zs, rz, h => by
    unfold Reps at rz
    obtain ⟨v, r, rfl, r1, r2⟩ := rz
    rw [List.zip_cons_cons, List.lookup_cons] at h ⊢
    by_cases q : (p == k) = true
    · rw [q] at h ⊢
      obtain rfl := Option.some.inj h
      exact ⟨_, rfl, r1⟩
    · rw [Bool.not_eq_true] at q
      rw [q] at h ⊢
      exact look_reps r2 h
theorem fill_reps {K : PySem.W.Frag} {H : Hp} {ρ : List Addr} {ds us : List D} {vs zs : List V} (r : Reps K H ρ ds vs) (rz : Reps K H ρ us zs) {ks : List Nat} : ∀ {m p : Nat} {xs : List D}, fill ds ks us m p = some xs → ∃ ys, fill vs ks zs m p = some ys ∧ Reps K H ρ xs ys
  | 0, p, ys, h => by obtain rfl := Option.some.inj h; exact ⟨[], rfl, .nil⟩
  | m + 1, p, ys, h => by
    unfold fill at h ⊢
    have key : ∀ y, (if p < ds.length then ds[p]? else (ks.zip us).lookup p) = some y → ∃ u, (if p < vs.length then vs[p]? else (ks.zip zs).lookup p) = some u ∧ Rep K H ρ y u := by
      intro y hy
      rw [r.len]
      by_cases c : p < ds.length
      · rw [if_pos c] at hy ⊢
        exact r.get hy
      · rw [if_neg c] at hy ⊢
        exact look_reps rz hy
    split at h
    · rename_i y hy
      obtain ⟨u, hu, ru⟩ := key y hy
      rw [hu]
      obtain ⟨ys2, h2, rfl⟩ := Option.map_eq_some_iff.mp h
      obtain ⟨xs, h3, r3⟩ := fill_reps r rz h2
      exact ⟨u :: xs, by show Option.map _ _ = _; rw [h3]; rfl, .cons ru r3⟩
    · cases h
/-- the keywords' names -/
theorem mtK_names {G : GC} {N : List Str} {sc : Scope} {ps : List Str} {pos : Pos} {env : PySem.Env} : ∀ {ks : List Nat} {as : List IE} {kws : List Keyword}, mtK G N sc ps ks as kws = true →
    (backToKw pos (keywordEach kws env)).all (·.1.isSome) = true ∧ (backToKw pos (keywordEach kws env)).filterMap (·.1) = ks.map (fun k => ps.getD k Str.empty) ∧ (backToKw pos (keywordEach kws env)).any (·.1.isNone) = false ∧ as.length = kws.length ∧ ks.length = kws.length
  | [], [], [], _ => ⟨rfl, rfl, rfl, rfl, rfl⟩
  | k :: ks, a :: as, ⟨some n, e, _⟩ :: kws, h => by
    have h' : (decide (ps[k]? = some n) && mtE G N sc a e && mtK G N sc ps ks as kws) = true := h
    simp only [Bool.and_eq_true, decide_eq_true_eq] at h'
    obtain ⟨⟨h1, _⟩, h2⟩ := h'
    obtain ⟨q1, q2, q3, q4, q5⟩ := mtK_names (pos := pos) (env := env) h2
    refine ⟨?_, ?_, ?_, by rw [List.length_cons, List.length_cons, q4], by rw [List.length_cons, List.length_cons, q5]⟩
    · show (true && (backToKw pos (keywordEach kws env)).all (·.1.isSome)) = true
      rw [q1]; rfl
    · show n :: (backToKw pos (keywordEach kws env)).filterMap (·.1) = ps.getD k Str.empty :: ks.map _
      rw [q2, List.getD_eq_getElem?_getD, h1]
      rfl
    · show (false || (backToKw pos (keywordEach kws env)).any (·.1.isNone)) = false
      rw [q3]; rfl
  | [], [], _ :: _, h => absurd h Bool.false_ne_true
  | [], _ :: _, _, h => absurd h Bool.false_ne_true
  | _ :: _, [], _, h => absurd h Bool.false_ne_true
  | _ :: _, _ :: _, [], h => absurd h Bool.false_ne_true
  | _ :: _, _ :: _, ⟨none, _, _⟩ :: _, h => absurd h Bool.false_ne_true
theorem evs_len {C : Pd.Cx} : ∀ {es : List IE} {σ : Env} {S S' : Sto} {ds : List D}, evs C es σ S = .ok ds S' → ds.length = es.length
  | [], _, _, _, _, h => by cases h; rfl
  | e :: es, σ, S, S', ds, h => by
    obtain ⟨d, S1, h1, h2⟩ := out_bind h
    obtain ⟨ds2, S2, h3, h4⟩ := out_bind h2
    cases h4
    rw [List.length_cons, List.length_cons, evs_len h3]
theorem rA_len {K : PySem.W.Frag} {C : Pd.Cx} {es : List IE} {σ : L2.St} {H : Hp} {Q : List V → Hp → Prop} (h : rA K (evs C es) σ H Q) : rA K (evs C es) σ H fun vs H1 => vs.length = es.length ∧ Q vs H1 := by
  obtain ⟨ρ, S, env, ds, S', r, re, e, g⟩ := h
  exact ⟨ρ, S, env, ds, S', r, re, e, fun ρ' H' vs p x r' rs => ⟨by rw [rs.len, evs_len e], g ρ' H' vs p x r' rs⟩⟩
end Pd
/-! One rule for each form of expression. -/
namespace Pd
open PySem PySem.Spec PyProof.Rows L2
section
variable {K : PySem.W.Frag} {σ : L2.St} {H : Hp} {ρ : List Addr} {S S1 : Sto} {env : Env}
theorem rE_go {f : Env → Sto → Out D} {d : D} {Q : VK} (r : RepS K H ρ S) (re : RepE K H ρ env σ) (e : f env S = .ok d S1)
    (q : ∀ ρ1 H1 v, Pre ρ ρ1 → Ext H H1 → RepS K H1 ρ1 S1 → RepE K H1 ρ1 env σ → Rep K H1 ρ1 d v → Q v H1) : rE K f σ H Q := ⟨ρ, S, env, d, S1, r, re, e, fun ρ' H' v p x r' h => q ρ' H' v p x r' (re.mono x p) h⟩
theorem rT_go {f : Env → Sto → Out Bool} {d : Bool} {Q : Bool → Hp → Prop} (r : RepS K H ρ S) (re : RepE K H ρ env σ) (e : f env S = .ok d S1)
    (q : ∀ ρ1 H1, Pre ρ ρ1 → Ext H H1 → RepS K H1 ρ1 S1 → RepE K H1 ρ1 env σ → Q d H1) : rT K f σ H Q := ⟨ρ, S, env, d, S1, r, re, e, fun ρ' H' p x r' => q ρ' H' p x r' (re.mono x p)⟩
theorem rA_go {f : Env → Sto → Out (List D)} {d : List D} {Q : List V → Hp → Prop} (r : RepS K H ρ S) (re : RepE K H ρ env σ) (e : f env S = .ok d S1)
    (q : ∀ ρ1 H1 v, Pre ρ ρ1 → Ext H H1 → RepS K H1 ρ1 S1 → RepE K H1 ρ1 env σ → Reps K H1 ρ1 d v → Q v H1) : rA K f σ H Q := ⟨ρ, S, env, d, S1, r, re, e, fun ρ' H' v p x r' h => q ρ' H' v p x r' (re.mono x p) h⟩
theorem rO_go {f : Env → Sto → Out (Option Int)} {d : Option Int} {Q : Option Int → Hp → Prop} (r : RepS K H ρ S) (re : RepE K H ρ env σ) (e : f env S = .ok d S1)
    (q : ∀ ρ1 H1, Pre ρ ρ1 → Ext H H1 → RepS K H1 ρ1 S1 → RepE K H1 ρ1 env σ → Q d H1) : rO K f σ H Q := ⟨ρ, S, env, d, S1, r, re, e, fun ρ' H' p x r' => q ρ' H' p x r' (re.mono x p)⟩
theorem ofB_ok {b : Option Bool} {S S' : Sto} {d : D} (e : Out.ofB b S = .ok d S') : ∃ k, b = some k ∧ d = .bl k ∧ S' = S := by
  unfold Out.ofB at e
  split at e
  · obtain ⟨rfl, rfl⟩ := out_inj e; exact ⟨_, rfl, rfl, rfl⟩
  · cases e
end
section
variable {G : GC} {T : Tab} {n : Nat} {C : Pd.Cx} {X : L2.Cx} {pos p p1 p2 p3 p4 : Pos}
theorem gl_of {x : Str} (h : glB X.env.scope x = true) : Gl X x := by
  have q : X.env.scope.names.lookup x = some .globalImplicit := by unfold glB at h; simpa using h
  exact q
theorem vis_of {x : Str} (h : visB X.env.scope x = true) : Vis X.env.scope x := by
  unfold visB at h
  simp only [Bool.or_eq_true, decide_eq_true_eq] at h
  rcases h with (h | h) | h
  · exact .inl h
  · exact .inr (.inl h)
  · exact .inr (.inr h)
theorem dbg_of {x : Str} (h : dbg x = true) : (x == ("__debug__" : Str)) = false := by
  unfold dbg at h
  cases q : (x == ("__debug__" : Str)) with
  | false => rfl
  | true => rw [q] at h; cases h
theorem free_of (O : Ok G T n C X) {x : Str} (h : freeB G X.env.scope x = true) : Gl X x ∧ X.mg x = none ∧ (x == ("__debug__" : Str)) = false ∧ x ≠ "__name__" := by
  unfold freeB at h
  simp only [Bool.and_eq_true, decide_eq_true_eq, Bool.not_eq_true', decide_eq_false_iff_not] at h
  exact ⟨gl_of h.1.1.1, O.free x h.1.1.2, dbg_of h.1.2, h.2⟩
theorem nd_slot {i : Nat} {x : Str} (hN : X.N[i]? = some x) (hv : visB X.env.scope x = true) (hd : dbg x = true) (hc : (x == ("__classdict__" : Str)) = false) : PE X (.Name x p) (rE X.K (evE C (.slot i))) := by
  refine pe_mono (pe_var hN (vis_of hv) (dbg_of hd) hc) fun σ H Q ⟨ρ, S, env, d, S', r, re, e, g⟩ => ?_
  have e' : (match env[i]? with | some (some d) => Out.ok d S | _ => Out.bad) = Out.ok d S' := e
  split at e'
  · rename_i d0 hi
    obtain ⟨rfl, rfl⟩ := out_inj e'
    obtain ⟨v, h1, h2⟩ := re.2 i d0 hi
    exact ⟨v, h1, g.now r h2⟩
  · cases e'
theorem nd_cst {e : Expr} {d : D} {v : V} (h : PE X e (tC v)) (hr : ∀ H ρ, Rep X.K H ρ d v) : PE X e (rE X.K (evE C (.cst d))) := by
  refine pe_mono h fun σ H Q ⟨ρ, S, env, d', S', r, re, e', g⟩ => ?_
  have e2 : Out.ok d S = Out.ok d' S' := e'
  obtain ⟨rfl, rfl⟩ := out_inj e2
  exact g.now r (hr _ _)
theorem nd_glo (O : Ok G T n C X) {i : Nat} {x : Str} (hi : G.glo[i]? = some x) (hg : glB X.env.scope x = true) (hd : dbg x = true) : PE X (.Name x p) (rE X.K (evE C (.glo i))) := by
  by_cases hx : ∃ d, T.glo[i]? = some d
  · obtain ⟨d, hd2⟩ := hx
    obtain ⟨u, v, hm, hv, hr⟩ := O.gl i x d hi hd2
    refine pe_mono (pe_glob (gl_of hg) hm hv (dbg_of hd)) fun σ H Q ⟨ρ, S, env, d', S', r, re, e', g⟩ => ?_
    have e2 : (match C.glo[i]? with | some d => Out.ok d S | none => Out.bad) = Out.ok d' S' := e'
    rw [O.glo, hd2] at e2
    obtain ⟨rfl, rfl⟩ := out_inj e2
    exact g.now r (hr _ _)
  · refine ⟨fun pins s σ H Q I ⟨ρ, S, env, d', S', r, re, e', g⟩ => ?_⟩
    have e2 : (match C.glo[i]? with | some d => Out.ok d S | none => Out.bad) = Out.ok d' S' := e'
    rw [O.glo] at e2
    split at e2
    · rename_i d hd2; exact absurd ⟨d, hd2⟩ hx
    · cases e2
theorem nd_tup {es : List IE} {vs : List Expr} {k : Nat} (h : PA X vs (rA X.K (evs C es))) : PE X (.Tuple vs k pos) (rE X.K (evE C (.tup es))) := by
  refine pe_mono (pe_tup h) fun σ H Q ⟨ρ, S, env, d, S', r, re, e, g⟩ => ?_
  obtain ⟨ds, S1, e1, e2⟩ := out_bind e
  refine rA_go r re e1 fun ρ1 H1 vs p x r1 re1 h1 => ?_
  split at e2
  · rename_i hl
    obtain ⟨rfl, rfl⟩ := out_inj e2
    exact ⟨by rw [h1.len]; exact hl, (goal_later g p x).tup r1 h1⟩
  · cases e2
theorem nd_lst {es : List IE} {vs : List Expr} (h : PA X vs (rA X.K (evs C es))) : PE X (.List vs pos) (rE X.K (evE C (.lst es))) := by
  refine pe_mono (pe_lst h) fun σ H Q ⟨ρ, S, env, d, S', r, re, e, g⟩ => ?_
  obtain ⟨ds, S1, e1, e2⟩ := out_bind e
  refine rA_go r re e1 fun ρ1 H1 vs p x r1 re1 h1 => ?_
  split at e2
  · rename_i hl
    obtain ⟨rfl, rfl⟩ := out_inj e2
    exact ⟨by rw [h1.len]; exact hl, (goal_later g p x).lst r1 h1⟩
  · cases e2
theorem nd_bin {op : BOp} {a b : IE} {l r : Expr} (ha : PE X l (rE X.K (evE C a))) (hb : PE X r (rE X.K (evE C b))) : PE X (.BinOp l (opOf op) r pos) (rE X.K (evE C (.bin op a b))) := by
  refine pe_mono (pe_op (op_bin op) ha hb) fun σ H Q ⟨ρ, S, env, d, S', r, re, e, g⟩ => ?_
  obtain ⟨d1, S1, e1, e2⟩ := out_bind e
  obtain ⟨d2, S2, e3, e4⟩ := out_bind e2
  exact rE_go r re e1 fun ρ1 H1 v1 p1 x1 r1 re1 h1 => rE_go r1 re1 e3 fun ρ2 H2 v2 p2 x2 r2 re2 h2 => ⟨ρ2, S2, d1, d2, d, S', r2, h1.mono x2 p2, h2, e4, goal_later g (p1.trans p2) (x1.trans x2)⟩
theorem nd_neg {a : IE} {l : Expr} (ha : PE X l (rE X.K (evE C a))) : PE X (.UnaryOp .USub l pos) (rE X.K (evE C (.neg a))) := by
  refine pe_mono (pe_un un_neg ha) fun σ H Q ⟨ρ, S, env, d, S', r, re, e, g⟩ => ?_
  obtain ⟨d1, S1, e1, e2⟩ := out_bind e
  refine rE_go r re e1 fun ρ1 H1 v1 p1 x1 r1 re1 h1 => ?_
  split at e2
  · obtain ⟨rfl, rfl⟩ := out_inj e2
    exact ⟨_, rep_int h1, (goal_later g p1 x1).now r1 rep_int'⟩
  · cases e2
theorem nd_not {a : IE} {l : Expr} (ha : PE X l (rE X.K (evE C a))) : PE X (.UnaryOp .Not l pos) (rE X.K (evE C (.not a))) := by
  refine ⟨fun pins s σ H Q I ⟨ρ, S, env, d, S', r, re, e, g⟩ => ?_⟩
  obtain ⟨d1, S1, e1, e2⟩ := out_bind e
  have q : rE X.K (evE C a) σ H (fun v H1 => ∃ k, TruV X.K v H1 k ∧ Q (.bl (!k)) H1) := by
    refine rE_go r re e1 fun ρ1 H1 v1 p1 x1 r1 re1 h1 => ?_
    split at e2
    · rename_i k hk
      obtain ⟨rfl, rfl⟩ := out_inj e2
      exact ⟨k, truth_v r1 hk h1, (goal_later g p1 x1).now r1 rep_bl'⟩
    · cases e2
  refine UnaryOp_ (thn (ha.run pins s σ H _ I q) fun v s1 ⟨x, H1, I1, r1, k, q1, q2⟩ => not_of (thn (tru_ok pins s1 σ H1 x v (fun b H2 => Q (.bl (!b)) H2) I1 r1 ⟨k, q1, q2⟩) fun b s2 ⟨H2, I2, q3⟩ => ⟨.bl (!b), H2, I2, rfl, q3⟩))
theorem nd_cmp (hu : X.A.units + 64 < cLine) {op : COp} {a b : IE} {l r : Expr} (ha : PE X l (rE X.K (evE C a))) (hb : PE X r (rE X.K (evE C b))) (hm : behindInMarks (cmpOf op) r = false) : PE X (.Compare l [cmpOf op] [r] pos) (rE X.K (evE C (.cmp op a b))) := by
  refine pe_mono (pe_cmpR (op_comp hu op) ha hb hm) fun σ H Q ⟨ρ, S, env, d, S', r, re, e, g⟩ => ?_
  obtain ⟨d1, S1, e1, e2⟩ := out_bind e
  obtain ⟨d2, S2, e3, e4⟩ := out_bind e2
  obtain ⟨k, e5, rfl, rfl⟩ := ofB_ok e4
  exact rE_go r re e1 fun ρ1 H1 v1 p1 x1 r1 re1 h1 => rE_go r1 re1 e3 fun ρ2 H2 v2 p2 x2 r2 re2 h2 => ⟨ρ2, S', d1, d2, k, r2, h1.mono x2 p2, h2, e5, (goal_later g (p1.trans p2) (x1.trans x2)).now r2 rep_bl'⟩
theorem nt_cmp (hu : X.A.units + 64 < cLine) {op : COp} {a b : IE} {l r : Expr} (ha : PE X l (rE X.K (evE C a))) (hb : PE X r (rE X.K (evE C b))) (hm : behindInMarks (cmpOf op) r = false) : PT X (.Compare l [cmpOf op] [r] pos) (rT X.K (evT C (.cmp op a b))) := by
  refine pt_mono (pt_cmpR (op_comp hu op) ha hb hm) fun σ H Q ⟨ρ, S, env, d, S', r, re, e, g⟩ => ?_
  obtain ⟨d1, S1, e1, e2⟩ := out_bind e
  obtain ⟨d2, S2, e3, e4⟩ := out_bind e2
  split at e4
  · rename_i k e5
    obtain ⟨rfl, rfl⟩ := out_inj e4
    exact rE_go r re e1 fun ρ1 H1 v1 p1 x1 r1 re1 h1 => rE_go r1 re1 e3 fun ρ2 H2 v2 p2 x2 r2 re2 h2 => ⟨ρ2, _, d1, d2, k, r2, h1.mono x2 p2, h2, e5, k, rfl, g ρ2 H2 (p1.trans p2) (x1.trans x2) r2⟩
  · cases e4
theorem nd_chain (hu : X.A.units + 64 < cLine) {op op' : COp} {a b c : IE} {l m r : Expr} (ha : PE X l (rE X.K (evE C a))) (hb : PE X m (rE X.K (evE C b))) (hc : PE X r (rE X.K (evE C c))) (hm : lastMarks [cmpOf op, cmpOf op'] [m, r] = false) :
    PE X (.Compare l [cmpOf op, cmpOf op'] [m, r] pos) (rE X.K (evE C (.chain op op' a b c))) := by
  refine pe_mono (pe_chain (op_comp hu op) (op_comp hu op') ha hb hc hm) fun σ H Q ⟨ρ, S, env, d, S', r, re, e, g⟩ => ?_
  obtain ⟨d1, S1, e1, e2⟩ := out_bind e
  obtain ⟨d2, S2, e3, e4⟩ := out_bind e2
  refine rE_go r re e1 fun ρ1 H1 v1 p1 x1 r1 re1 h1 => rE_go r1 re1 e3 fun ρ2 H2 v2 p2 x2 r2 re2 h2 => ?_
  split at e4
  · rename_i e5
    obtain ⟨d3, S3, e6, e7⟩ := out_bind e4
    obtain ⟨k, e8, rfl, rfl⟩ := ofB_ok e7
    refine ⟨ρ2, S2, d1, d2, true, r2, h1.mono x2 p2, h2, e5, true, rfl, ?_⟩
    rw [if_pos rfl]
    exact rE_go r2 re2 e6 fun ρ3 H3 v3 p3 x3 r3 re3 h3 => ⟨ρ3, S', d2, d3, k, r3, h2.mono x3 p3, h3, e8, (goal_later g ((p1.trans p2).trans p3) ((x1.trans x2).trans x3)).now r3 rep_bl'⟩
  · rename_i e5
    obtain ⟨rfl, rfl⟩ := out_inj e4
    refine ⟨ρ2, S2, d1, d2, false, r2, h1.mono x2 p2, h2, e5, false, rfl, ?_⟩
    rw [if_neg Bool.false_ne_true]
    exact (goal_later g (p1.trans p2) (x1.trans x2)).now r2 rep_bl'
  · cases e4
theorem nt_chain (hu : X.A.units + 64 < cLine) {op op' : COp} {a b c : IE} {l m r : Expr} (ha : PE X l (rE X.K (evE C a))) (hb : PE X m (rE X.K (evE C b))) (hc : PE X r (rE X.K (evE C c))) (hm : lastMarks [cmpOf op, cmpOf op'] [m, r] = false) :
    PT X (.Compare l [cmpOf op, cmpOf op'] [m, r] pos) (rT X.K (evT C (.chain op op' a b c))) := by
  refine pt_mono (pt_chain (op_comp hu op) (op_comp hu op') ha hb hc hm) fun σ H Q ⟨ρ, S, env, d, S', r, re, e, g⟩ => ?_
  obtain ⟨d1, S1, e1, e2⟩ := out_bind e
  obtain ⟨d2, S2, e3, e4⟩ := out_bind e2
  refine rE_go r re e1 fun ρ1 H1 v1 p1 x1 r1 re1 h1 => rE_go r1 re1 e3 fun ρ2 H2 v2 p2 x2 r2 re2 h2 => ?_
  split at e4
  · rename_i e5
    obtain ⟨d3, S3, e6, e7⟩ := out_bind e4
    refine ⟨ρ2, S2, d1, d2, true, r2, h1.mono x2 p2, h2, e5, true, rfl, ?_⟩
    rw [if_pos rfl]
    refine rE_go r2 re2 e6 fun ρ3 H3 v3 p3 x3 r3 re3 h3 => ?_
    split at e7
    · rename_i k e8
      obtain ⟨rfl, rfl⟩ := out_inj e7
      exact ⟨ρ3, _, d2, d3, k, r3, h2.mono x3 p3, h3, e8, k, rfl, g ρ3 H3 ((p1.trans p2).trans p3) ((x1.trans x2).trans x3) r3⟩
    · cases e7
  · rename_i e5
    obtain ⟨rfl, rfl⟩ := out_inj e4
    refine ⟨ρ2, S2, d1, d2, false, r2, h1.mono x2 p2, h2, e5, false, rfl, ?_⟩
    rw [if_neg Bool.false_ne_true]
    exact ⟨false, rfl, g ρ2 H2 (p1.trans p2) (x1.trans x2) r2⟩
  · cases e4
theorem nd_ifx {t : IT} {a b : IE} {c l r : Expr} (ht : PT X c (rT X.K (evT C t))) (ha : PE X l (rE X.K (evE C a))) (hb : PE X r (rE X.K (evE C b))) : PE X (.IfExp c l r pos) (rE X.K (evE C (.ifx t a b))) := by
  refine pe_mono (pe_ifExp ht ha hb) fun σ H Q ⟨ρ, S, env, d, S', r, re, e, g⟩ => ?_
  obtain ⟨k, S1, e1, e2⟩ := out_bind e
  refine rT_go r re e1 fun ρ1 H1 p1 x1 r1 re1 => ?_
  cases k with
  | true => exact ⟨ρ1, S1, env, d, S', r1, re1, e2, goal_later g p1 x1⟩
  | false => exact ⟨ρ1, S1, env, d, S', r1, re1, e2, goal_later g p1 x1⟩
theorem nt_val {a : IE} {c : Expr} (ha : PE X c (rE X.K (evE C a))) (hp : plainT c = true) : PT X c (rT X.K (evT C (.val a))) := by
  refine pt_mono (pt_truth ha ?_) fun σ H Q ⟨ρ, S, env, d, S', r, re, e, g⟩ => ?_
  · intro whole
    cases c <;> first | rfl | (rename_i op _ _; cases op <;> first | rfl | cases hp) | cases hp
  obtain ⟨d1, S1, e1, e2⟩ := out_bind e
  refine rE_go r re e1 fun ρ1 H1 v1 p1 x1 r1 re1 h1 => ?_
  split at e2
  · rename_i k hk
    obtain ⟨rfl, rfl⟩ := out_inj e2
    exact ⟨_, truth_v r1 hk h1, g ρ1 H1 p1 x1 r1⟩
  · cases e2
theorem nt_not {t : IT} {c : Expr} (ha : PT X c (rT X.K (evT C t))) : PT X (.UnaryOp .Not c pos) (rT X.K (evT C (.not t))) := by
  refine pt_mono (pt_not ha) fun σ H Q ⟨ρ, S, env, d, S', r, re, e, g⟩ => ?_
  obtain ⟨k, S1, e1, e2⟩ := out_bind e
  obtain ⟨rfl, rfl⟩ := out_inj e2
  exact rT_go r re e1 fun ρ1 H1 p1 x1 r1 re1 => g ρ1 H1 p1 x1 r1
theorem no_bad {α : Type} {a : α} {S : Sto} (h : Out.bad = Out.ok a S) : False := by cases h
/-! ### and, or -/
theorem nd_and1 {a : IE} {e : Expr} (ha : PE X e (rE X.K (evE C a))) : PE X (.BoolOp .And [e] pos) (rE X.K (evAnd C [a])) := pe_mono (pe_one ha) fun σ H Q h => h
theorem nd_or1 {a : IE} {e : Expr} (ha : PE X e (rE X.K (evE C a))) : PE X (.BoolOp .Or [e] pos) (rE X.K (evOr C [a])) := pe_mono (pe_one ha) fun σ H Q h => h
theorem nd_and2 {a b : IE} {as : List IE} {e e2 : Expr} {es : List Expr} (ha : PE X e (rE X.K (evE C a))) (hb : PE X (.BoolOp .And (e2 :: es) pos) (rE X.K (evAnd C (b :: as)))) : PE X (.BoolOp .And (e :: e2 :: es) pos) (rE X.K (evAnd C (a :: b :: as))) := by
  refine pe_mono (pe_and ha hb) fun σ H Q ⟨ρ, S, env, d, S', r, re, e, g⟩ => ?_
  obtain ⟨d1, S1, e1, e2⟩ := out_bind e
  refine rE_go r re e1 fun ρ1 H1 v1 p1 x1 r1 re1 h1 => ?_
  split at e2
  · exact ⟨true, rep_bl h1, ρ1, S1, env, d, S', r1, re1, e2, goal_later g p1 x1⟩
  · obtain ⟨rfl, rfl⟩ := out_inj e2
    exact ⟨false, rep_bl h1, (goal_later g p1 x1).now r1 rep_bl'⟩
  · cases e2
theorem nd_or2 {a b : IE} {as : List IE} {e e2 : Expr} {es : List Expr} (ha : PE X e (rE X.K (evE C a))) (hb : PE X (.BoolOp .Or (e2 :: es) pos) (rE X.K (evOr C (b :: as)))) : PE X (.BoolOp .Or (e :: e2 :: es) pos) (rE X.K (evOr C (a :: b :: as))) := by
  refine pe_mono (pe_or ha hb) fun σ H Q ⟨ρ, S, env, d, S', r, re, e, g⟩ => ?_
  obtain ⟨d1, S1, e1, e2⟩ := out_bind e
  refine rE_go r re e1 fun ρ1 H1 v1 p1 x1 r1 re1 h1 => ?_
  split at e2
  · exact ⟨false, rep_bl h1, ρ1, S1, env, d, S', r1, re1, e2, goal_later g p1 x1⟩
  · obtain ⟨rfl, rfl⟩ := out_inj e2
    exact ⟨true, rep_bl h1, (goal_later g p1 x1).now r1 rep_bl'⟩
  · cases e2
theorem nw_and1 {a : IT} {e : Expr} (ha : PT X e (rT X.K (evT C a))) : PW X (.BoolOp .And [e] pos) (rT X.K (evAndT C [a])) := by
  refine ⟨fun wh pins s σ H Q I h => (pw_and1 ha).run wh pins s σ H Q I ?_⟩
  exact h
theorem nw_or1 {a : IT} {e : Expr} (ha : PT X e (rT X.K (evT C a))) : PW X (.BoolOp .Or [e] pos) (rT X.K (evOrT C [a])) := ⟨fun wh pins s σ H Q I h => (pw_or1 ha).run wh pins s σ H Q I h⟩
theorem nw_and2 {a b : IT} {as : List IT} {e e2 : Expr} {es : List Expr} (ha : PT X e (rT X.K (evT C a))) (hb : PW X (.BoolOp .And (e2 :: es) pos) (rT X.K (evAndT C (b :: as)))) : PW X (.BoolOp .And (e :: e2 :: es) pos) (rT X.K (evAndT C (a :: b :: as))) := by
  refine ⟨fun wh pins s σ H Q I ⟨ρ, S, env, d, S', r, re, e, g⟩ => (pw_and ha hb).run wh pins s σ H Q I ?_⟩
  obtain ⟨k, S1, e1, e2⟩ := out_bind e
  refine rT_go r re e1 fun ρ1 H1 p1 x1 r1 re1 => ?_
  cases k with
  | true => exact ⟨ρ1, S1, env, d, S', r1, re1, e2, fun ρ' H' p x r => g ρ' H' (p1.trans p) (x1.trans x) r⟩
  | false =>
    obtain ⟨rfl, rfl⟩ := out_inj e2
    exact g ρ1 H1 p1 x1 r1
theorem nw_or2 {a b : IT} {as : List IT} {e e2 : Expr} {es : List Expr} (ha : PT X e (rT X.K (evT C a))) (hb : PW X (.BoolOp .Or (e2 :: es) pos) (rT X.K (evOrT C (b :: as)))) : PW X (.BoolOp .Or (e :: e2 :: es) pos) (rT X.K (evOrT C (a :: b :: as))) := by
  refine ⟨fun wh pins s σ H Q I ⟨ρ, S, env, d, S', r, re, e, g⟩ => (pw_or ha hb).run wh pins s σ H Q I ?_⟩
  obtain ⟨k, S1, e1, e2⟩ := out_bind e
  refine rT_go r re e1 fun ρ1 H1 p1 x1 r1 re1 => ?_
  cases k with
  | false => exact ⟨ρ1, S1, env, d, S', r1, re1, e2, fun ρ' H' p x r => g ρ' H' (p1.trans p) (x1.trans x) r⟩
  | true =>
    obtain ⟨rfl, rfl⟩ := out_inj e2
    exact g ρ1 H1 p1 x1 r1
end
end Pd
namespace Pd
open PySem PySem.Spec PyProof.Rows L2
section
variable {G : GC} {T : Tab} {n : Nat} {C : Pd.Cx} {X : L2.Cx} {pos p p1 p2 p3 p4 : Pos}
theorem nd_nil : PA X [] (rA X.K (evs C [])) := by
  refine ⟨fun pos pins s σ H Q I ⟨ρ, S, env, d, S', r, re, e, g⟩ => pa_nil.run pos pins s σ H Q I ?_⟩
  obtain ⟨rfl, rfl⟩ := out_inj e
  exact g ρ H [] .refl .refl r .nil
theorem nd_cons {a : IE} {as : List IE} {e : Expr} {es : List Expr} (ha : PE X e (rE X.K (evE C a))) (hr : PA X es (rA X.K (evs C as))) (hs : notStar e = true) : PA X (e :: es) (rA X.K (evs C (a :: as))) := by
  refine ⟨fun pos pins s σ H Q I ⟨ρ, S, env, d, S', r, re, e, g⟩ => (pa_cons ha hr (star_cons hs)).run pos pins s σ H Q I ?_⟩
  obtain ⟨d1, S1, e1, e2⟩ := out_bind e
  obtain ⟨ds, S2, e3, e4⟩ := out_bind e2
  obtain ⟨rfl, rfl⟩ := out_inj e4
  exact rE_go r re e1 fun ρ1 H1 v1 p1 x1 r1 re1 h1 => rA_go r1 re1 e3 fun ρ2 H2 v2 p2 x2 r2 re2 h2 => g ρ2 H2 (v1 :: v2) (p1.trans p2) (x1.trans x2) r2 (.cons (h1.mono x2 p2) h2)
theorem nk_nil : PK X [] (rA X.K (evs C [])) := by
  refine ⟨fun pos pins s σ H Q I ⟨ρ, S, env, d, S', r, re, e, g⟩ => pk_nil.run pos pins s σ H Q I ?_⟩
  obtain ⟨rfl, rfl⟩ := out_inj e
  exact g ρ H [] .refl .refl r .nil
theorem nk_cons {a : IE} {as : List IE} {e : Expr} {nm : Option Str} {kws : List Keyword} (ha : PE X e (rE X.K (evE C a))) (hr : PK X kws (rA X.K (evs C as))) : PK X (⟨nm, e, p⟩ :: kws) (rA X.K (evs C (a :: as))) := by
  refine ⟨fun pos pins s σ H Q I ⟨ρ, S, env, d, S', r, re, e, g⟩ => (pk_cons ha hr).run pos pins s σ H Q I ?_⟩
  obtain ⟨d1, S1, e1, e2⟩ := out_bind e
  obtain ⟨ds, S2, e3, e4⟩ := out_bind e2
  obtain ⟨rfl, rfl⟩ := out_inj e4
  exact rE_go r re e1 fun ρ1 H1 v1 p1 x1 r1 re1 h1 => rA_go r1 re1 e3 fun ρ2 H2 v2 p2 x2 r2 re2 h2 => g ρ2 H2 (v1 :: v2) (p1.trans p2) (x1.trans x2) r2 (.cons (h1.mono x2 p2) h2)
theorem no_none : PO X none (rO X.K (evO C none)) := by
  refine ⟨fun pins s σ H Q I ⟨ρ, S, env, d, S', r, re, e, g⟩ => po_none.run pins s σ H Q I ?_⟩
  obtain ⟨rfl, rfl⟩ := out_inj e
  exact g ρ H .refl .refl r
theorem no_some {a : IE} {e : Expr} (ha : PE X e (rE X.K (evE C a))) : PO X (some e) (rO X.K (evO C (some a))) := by
  refine ⟨fun pins s σ H Q I ⟨ρ, S, env, d, S', r, re, e, g⟩ => (po_some ha).run pins s σ H Q I ?_⟩
  obtain ⟨d1, S1, e1, e2⟩ := out_bind e
  refine rE_go r re e1 fun ρ1 H1 v1 p1 x1 r1 re1 h1 => ?_
  split at e2
  · obtain ⟨rfl, rfl⟩ := out_inj e2
    exact ⟨_, rep_int h1, g ρ1 H1 p1 x1 r1⟩
  · cases e2
/-! ### isinstance -/
theorem boot_ty (t : Ty) : bootBuiltins (sOf (tyS t)) = some (.type (tyS t)) := by cases t <;> kernel_rfl
theorem boot_isi : bootBuiltins (sOf "isinstance") = some (.builtin "isinstance") := by kernel_rfl
theorem nd_isi (O : Ok G T n C X) {a : IE} {t : Ty} {x : Expr} (ha : PE X x (rE X.K (evE C a))) (hf : freeB G X.env.scope (sOf "isinstance") = true) (hy : freeB G X.env.scope (sOf (tyS t)) = true) (hs : notStar x = true) :
    PE X (.Call (.Name (sOf "isinstance") p) [x, .Name (sOf (tyS t)) p1] [] pos) (rE X.K (evE C (.isi a [t]))) := by
  obtain ⟨g1, g2, g3, g4⟩ := free_of O hf
  obtain ⟨k1, k2, k3, k4⟩ := free_of O hy
  have hcls : PE X (.Name (sOf (tyS t)) p1) (tC (.ty (tyS t))) := pe_bltn k1 k2 (boot_ty t) rfl k4 k3
  refine pe_mono (pe_callB call_isi g1 g2 boot_isi (pa_cons ha (pa_cons hcls pa_nil rfl) (star_cons hs)) g4 g3 (star_cons hs) rfl) fun σ H Q ⟨ρ, S, env, d, S', r, re, e, g⟩ => ?_
  obtain ⟨d1, S1, e1, e2⟩ := out_bind e
  obtain ⟨k, e3, rfl, rfl⟩ := ofB_ok e2
  refine rE_go r re e1 fun ρ1 H1 v1 p1 x1 r1 re1 h1 => ?_
  have fin : Q (.bl k) H1 := (goal_later g p1 x1).now r1 rep_bl'
  unfold isiD at e3
  split at e3
  · cases e3
    cases rep_non h1
    exact ⟨.non, .ty (tyS t), .type "NoneType", .type (tyS t), false, rfl, .ty _, .base .non, kit_ty (kit_none t), fin⟩
  · split at e3
    · rename_i u hu
      obtain rfl : (u.sub t || false) = k := Option.some.inj e3
      rw [Bool.or_false] at fin
      exact ⟨v1, .ty (tyS t), .type (tyS u), .type (tyS t), u.sub t, rfl, .ty _, ty_v r1 hu h1, kit_ty (kit_sub u t), fin⟩
    · cases e3
/-! ### built-in functions -/
theorem pe_callB' {x : Str} {e : Expr} {es : List Expr} {t : TA} {id : String} {rr : List V → Hp → VK → Prop} (hc : CallR X (.builtin id) rr) (hg : Gl X x) (hm : X.mg x = some (.builtin id)) (ha : PA X (e :: es) t) (hdb : (x == ("__debug__" : Str)) = false)
    (he : starEach (e :: es) X.env = (false, eval e X.env) :: starEach es X.env) (hpl : (backTo pos (starEach es X.env)).any (·.1) = false) : PE X (.Call (.Name x p) (e :: es) [] pos) (tCB rr t) := by
  refine ⟨fun pins s σ H Q I h => ?_⟩
  refine wpAny_Call_Name_kw (ld_glob I hg hm ?_ hdb)
  exact PyProof.Rows.callWith_builtin1 (thn (ha.run pos pins s σ H _ I h) fun us s1 ⟨vs, H1, I1, r1, q1⟩ => hc pins s1 σ H1 vs us Q I1 r1 q1) he hpl
theorem nd_bi' {f : Bi} {as : List IE} {e0 : Expr} {es : List Expr} {x : Str} (h : PE X (.Call (.Name x p) (e0 :: es) [] pos) (tCB (rBi X.K (bifn f)) (rA X.K (evs C as)))) : PE X (.Call (.Name x p) (e0 :: es) [] pos) (rE X.K (evE C (.bi f as))) := by
  refine pe_mono h fun σ H Q ⟨ρ, S, env, d, S', r, re, e, g⟩ => ?_
  obtain ⟨d1, S1, e1, e2⟩ := out_bind e
  exact rA_go r re e1 fun ρ1 H1 v1 p1 x1 r1 re1 h1 => ⟨ρ1, S1, d1, d, S', r1, h1, e2, goal_later g p1 x1⟩
theorem boot_len : bootBuiltins (sOf "len") = some (.builtin "len") := by kernel_rfl
theorem boot_abs : bootBuiltins (sOf "abs") = some (.builtin "abs") := by kernel_rfl
theorem boot_max : bootBuiltins (sOf "max") = some (.builtin "max") := by kernel_rfl
theorem boot_min : bootBuiltins (sOf "min") = some (.builtin "min") := by kernel_rfl
theorem boot_repr : bootBuiltins (sOf "repr") = some (.builtin "repr") := by kernel_rfl
theorem nd_bi (O : Ok G T n C X) {b : Bi} {as : List IE} {e : Expr} {es : List Expr} {x : Str} (hx : x = sOf (biN b)) (hb : b ≠ .gcd) (hf : freeB G X.env.scope x = true) (ha : PA X (e :: es) (rA X.K (evs C as))) (hst : noStars (e :: es) = true) :
    PE X (.Call (.Name x p) (e :: es) [] pos) (rE X.K (evE C (.bi b as))) := by
  subst hx
  obtain ⟨g1, g2, g3, g4⟩ := free_of O hf
  obtain ⟨h1, h2⟩ := Bool.and_eq_true_iff.mp (show (notStar e && noStars es) = true from hst)
  have z1 := star_cons (es := es) (env := X.env) h1
  have z2 := star_any (pos := pos) (env := X.env) h2
  cases b with
  | gcd => exact absurd rfl hb
  | len => exact nd_bi' (pe_callB cr_len g1 g2 boot_len ha g4 g3 z1 z2)
  | abs => exact nd_bi' (pe_callB cr_abs g1 g2 boot_abs ha g4 g3 z1 z2)
  | max => exact nd_bi' (pe_callB (cr_max O.calm) g1 g2 boot_max ha g4 g3 z1 z2)
  | min => exact nd_bi' (pe_callB (cr_min O.calm) g1 g2 boot_min ha g4 g3 z1 z2)
  | int => exact nd_bi' (pe_callTy cr_int g1 g2 (boot_ty .int) ha g4 g3 z1 z2)
  | list => exact nd_bi' (pe_callTy cr_list g1 g2 (boot_ty .list) ha g4 g3 z1 z2)
  | tuple => exact nd_bi' (pe_callTy cr_tuple g1 g2 (boot_ty .tuple) ha g4 g3 z1 z2)
  | repr => exact nd_bi' (pe_callB (cr_repr O.guards O.room.units) g1 g2 boot_repr ha g4 g3 z1 z2)
  | sum =>
    refine ⟨fun pins s σ H Q I ⟨ρ, S, env, d, S', r, re, e, g⟩ => ?_⟩
    obtain ⟨d1, S1, e1, e2⟩ := out_bind e
    exact (no_bad e2).elim
theorem nd_gcd (O : Ok G T n C X) {as : List IE} {e : Expr} {es : List Expr} {x : Str} (hx : x = sOf "gcd") (hg : glB X.env.scope x = true) (hd : dbg x = true) (hG : G.gcd = true) (ha : PA X (e :: es) (rA X.K (evs C as))) (hst : noStars (e :: es) = true) :
    PE X (.Call (.Name x p) (e :: es) [] pos) (rE X.K (evE C (.bi .gcd as))) := by
  obtain ⟨h1, h2⟩ := Bool.and_eq_true_iff.mp (show (notStar e && noStars es) = true from hst)
  exact nd_bi' (pe_callB' cr_gcdD (gl_of hg) (by rw [hx]; exact O.gcd hG) ha (dbg_of hd) (star_cons h1) (star_any h2))
/-! ### defs -/
theorem nd_call (O : Ok G T n C X) {f : Nat} {as : List IE} {es : List Expr} {x : Str} {ps : List Str} (hf : G.fns[f]? = some (x, ps)) (hg : glB X.env.scope x = true) (hd : dbg x = true) (ha : PA X es (rA X.K (evs C as))) (hst : noStars es = true) (hl : as.length = es.length) :
    PE X (.Call (.Name x p) es [] pos) (rE X.K (evE C (.call f as))) := by
  obtain ⟨a, fd, hm, hk, hb, _, F⟩ := (O.fn f x ps hf).at_
  have go : ∀ {t : TA}, (∀ σ H Q, rA X.K (evs C as) σ H Q → t σ H Q) → PE X (.Call (.Name x p) es [] pos) (tCallG (spI X.K T n f) t) → PE X (.Call (.Name x p) es [] pos) (rE X.K (evE C (.call f as))) := fun {t} ht h => by
    refine pe_mono h fun σ H Q ⟨ρ, S, env, d, S', r, re, e, g⟩ => ht _ _ _ ?_
    obtain ⟨d1, S1, e1, e2⟩ := out_bind e
    rw [O.cal] at e2
    exact rA_go r re e1 fun ρ1 H1 v1 p1 x1 r1 re1 h1 => ⟨ρ1, S1, d1, C.lo, d, S', r1, h1, e2, goal_later g p1 x1⟩
  cases es with
  | cons e es => exact go (fun _ _ _ h => h) (pe_callG F O.room O.guards (gl_of hg) hm hk hb ha (dbg_of hd) hst)
  | nil =>
    have : as = [] := List.length_eq_zero_iff.mp hl
    subst this
    refine go (fun σ H Q ⟨ρ, S, env, d, S', r, re, e, g⟩ => ?_) (pe_callG0 F O.room O.guards (gl_of hg) hm hk hb (dbg_of hd))
    obtain ⟨rfl, rfl⟩ := out_inj e
    exact g ρ H [] .refl .refl r .nil
theorem npOf_of {f : Nat} {fn : Fn} (h : T.fns[f]? = some fn) : npOf T f = fn.np := by unfold npOf; rw [h]
theorem nd_callk (O : Ok G T n C X) {f : Nat} {as ws : List IE} {ks : List Nat} {es : List Expr} {kws : List Keyword} {x : Str} {ps : List Str} (hf : G.fns[f]? = some (x, ps)) (hg : glB X.env.scope x = true) (hd : dbg x = true) (ha : PA X es (rA X.K (evs C as))) (hst : noStars es = true) (hl : as.length = es.length)
    (hkw : PK X kws (rA X.K (evs C ws))) (hmk : mtK G X.N X.env.scope ps ks ws kws = true) (hin : (f, as.length, ks) ∈ G.kws) :
    PE X (.Call (.Name x p) es kws pos) (rE X.K (evE C (.callk f as ks ws))) := by
  have FF := O.fn f x ps hf
  obtain ⟨fn, hfn, hnp⟩ := FF.np
  obtain ⟨a, fd, hm, hk, _, hb, F⟩ := FF.at_
  have np : C.np f = ps.length := by rw [O.np, npOf_of hfn, hnp]
  obtain ⟨k1, k2, k3, k4, k5⟩ := mtK_names (pos := pos) (env := X.env) hmk
  have hbb : ∀ (m : Nat), m = as.length → ∀ (s : Shared) (us vs : List Value) (xs zs ys : List V), Vals xs us → Vals zs vs → us.length = m → vs.length = kws.length → fill xs ks zs ps.length 0 = some ys →
      ∃ xs, Vals ys xs ∧ (xs.length = ps.length → BindsTo s fd ⟨us, (ks.map fun k => ps.getD k Str.empty).zip vs⟩ (ps.zip xs)) := fun m em s us vs xs zs ys r1 r2 l1 l2 hfl => by
    obtain ⟨xs', h1, h2⟩ := fill_vals r1 r2 hfl
    exact ⟨xs', h2, fun _ => hb as.length ks hin s us vs xs' (by rw [l1, em]) (by rw [l2, k5]) h1⟩
  have go : ∀ {t : TA}, (∀ σ H Q, rA X.K (evs C as) σ H Q → t σ H Q) → PE X (.Call (.Name x p) es kws pos) (tCallGK (spI X.K T n f) (fun vs zs => fill vs ks zs ps.length 0) t (rA X.K (evs C ws))) → PE X (.Call (.Name x p) es kws pos) (rE X.K (evE C (.callk f as ks ws))) := fun {t} ht h => by
    refine pe_mono h fun σ H Q ⟨ρ, S, env, d, S', r, re, e, g⟩ => ht _ _ _ ?_
    obtain ⟨d1, S1, e1, e2⟩ := out_bind e
    obtain ⟨d2, S2, e3, e4⟩ := out_bind e2
    rw [O.cal, np] at e4
    refine rA_go r re e1 fun ρ1 H1 v1 p1 x1 r1 re1 h1 => rA_go r1 re1 e3 fun ρ2 H2 v2 p2 x2 r2 re2 h2 => ?_
    split at e4
    · rename_i xs hxs
      obtain ⟨ys, q1, q2⟩ := fill_reps (h1.mono x2 p2) h2 hxs
      exact ⟨ys, q1, ρ2, S2, xs, C.lo, d, S', r2, q2, e4, goal_later g (p1.trans p2) (x1.trans x2)⟩
    · cases e4
  cases es with
  | cons e es =>
    refine go (fun _ _ _ h => h) (pe_callGK F O.room O.guards (gl_of hg) hm hk (fun s us ws vs zs ys r1 r2 l1 l2 q => hbb (e :: es).length hl.symm s us ws vs zs ys r1 r2 l1 l2 q) ha hkw k1 k2 k3 (dbg_of hd) hst ?_ ?_)
    · intro σ H Q h; rw [← hl]; exact rA_len h
    · intro σ H Q h; rw [← k4]; exact rA_len h
  | nil =>
    have : as = [] := List.length_eq_zero_iff.mp hl
    subst this
    refine go (fun σ H Q ⟨ρ, S, env, d, S', r, re, e, g⟩ => ?_) (pe_callGK0 F O.room O.guards (gl_of hg) hm hk (fun s us ws vs zs ys r1 r2 l1 l2 q => hbb 0 rfl s us ws vs zs ys r1 r2 l1 l2 q) hkw k1 k2 k3 (dbg_of hd) ?_)
    · intro σ H Q h; rw [← k4]; exact rA_len h
    · obtain ⟨rfl, rfl⟩ := out_inj e
      exact g ρ H [] .refl .refl r .nil
/-! ### subscripts -/
theorem plain_ix {y : Expr} (h : plainIx y = true) : PlainIx y := by
  intro o i
  cases y <;> first | rfl | cases h
theorem nd_idx (hu : X.A.units + 1 < cLine) {a i : IE} {x y : Expr} (hp : plainIx y = true) (ha : PE X x (rE X.K (evE C a))) (hi : PE X y (rE X.K (evE C i))) : PE X (.Subscript x y pos) (rE X.K (evE C (.idx a i))) := by
  refine pe_mono (pe_ix (ix_row hu) ha hi (plain_ix hp)) fun σ H Q ⟨ρ, S, env, d, S', r, re, e, g⟩ => ?_
  obtain ⟨d1, S1, e1, e2⟩ := out_bind e
  obtain ⟨d2, S2, e3, e4⟩ := out_bind e2
  exact rE_go r re e1 fun ρ1 H1 v1 p1 x1 r1 re1 h1 => rE_go r1 re1 e3 fun ρ2 H2 v2 p2 x2 r2 re2 h2 => ⟨ρ2, S2, d1, d2, d, S', r2, h1.mono x2 p2, h2, e4, goal_later g (p1.trans p2) (x1.trans x2)⟩
theorem nd_slc {a : IE} {lo hi : Option IE} {x : Expr} {l h : Option Expr} (ha : PE X x (rE X.K (evE C a))) (hl : PO X l (rO X.K (evO C lo))) (hh : PO X h (rO X.K (evO C hi))) : PE X (.Subscript x (.Slice l h none p2) pos) (rE X.K (evE C (.slc a lo hi))) := by
  refine pe_mono (pe_slice sl_row ha hl hh) fun σ H Q ⟨ρ, S, env, d, S', r, re, e, g⟩ => ?_
  obtain ⟨d1, S1, e1, e2⟩ := out_bind e
  obtain ⟨d2, S2, e3, e4⟩ := out_bind e2
  obtain ⟨d3, S3, e5, e6⟩ := out_bind e4
  exact rE_go r re e1 fun ρ1 H1 v1 p1 x1 r1 re1 h1 => rO_go r1 re1 e3 fun ρ2 H2 p2 x2 r2 re2 => rO_go r2 re2 e5 fun ρ3 H3 p3 x3 r3 re3 => ⟨ρ3, S3, d1, d, S', r3, h1.mono (x2.trans x3) (p2.trans p3), e6, goal_later g ((p1.trans p2).trans p3) ((x1.trans x2).trans x3)⟩
theorem nd_back {a : IE} {x : Expr} {k : Nat} (ha : PE X x (rE X.K (evE C a))) : PE X (.Subscript x (.Slice none none (some (.UnaryOp .USub (.Constant (.int 1) k p1) p2)) p3) pos) (rE X.K (evE C (.back a))) := by
  refine pe_mono (pe_revL ha) fun σ H Q ⟨ρ, S, env, d, S', r, re, e, g⟩ => ?_
  obtain ⟨d1, S1, e1, e2⟩ := out_bind e
  refine rE_go r re e1 fun ρ1 H1 v1 p1 x1 r1 re1 h1 => ?_
  split at e2
  · split at e2
    · rename_i xs hx
      obtain ⟨rfl, rfl⟩ := out_inj e2
      obtain ⟨a, vs, rfl, q, h⟩ := r1.items hx h1
      rcases h with ⟨_, _, h⟩ | ⟨h, _⟩
      · exact ⟨a, vs, rfl, h, (goal_later g p1 x1).lst r1 q.reverse⟩
      · cases h
    · cases e2
  · cases e2
/-! ### methods of lists -/
theorem isL_v {K : PySem.W.Frag} {H : Hp} {ρ : List Addr} {S : Sto} {x : D} {v : V} (r : RepS K H ρ S) (h : isL S x = true) (q : Rep K H ρ x v) : tyV K "list" v H := by
  unfold isL at h
  split at h
  · split at h
    · rename_i xs hx
      obtain ⟨a, vs, rfl, _, h1, _⟩ := r.lstAt hx q
      exact .inl ⟨rfl, vs, .inl (.inl h1)⟩
    · cases h
  · cases h
theorem type_app : typeOf (.builtin "list.append") = pure (.type "method_descriptor") := by show builtinType _ = _; rw [builtinType_eq_fast]; kernel_rfl
theorem type_ext : typeOf (.builtin "list.extend") = pure (.type "method_descriptor") := by show builtinType _ = _; rw [builtinType_eq_fast]; kernel_rfl
theorem type_pop : typeOf (.builtin "list.pop") = pure (.type "method_descriptor") := by show builtinType _ = _; rw [builtinType_eq_fast]; kernel_rfl
theorem nd_append {a e : IE} {o : Str} {x : Expr} {ap : Pos} (hl : (ap.endLine == pos.line) = true) (hs : notStar x = true) (ha : PE X (.Name o p) (rE X.K (evE C a))) (he : PE X x (rE X.K (evE C e))) : PE X (.Call (.Attribute (.Name o p) (sOf "append") ap) [x] [] pos) (rE X.K (evE C (.append a e))) := by
  refine pe_mono (pe_bm (r := rMe X.K (appL C.lo)) F.plainAttrs_list F.slot_list_append type_app mt_app ha (pa_cons he pa_nil (star_cons hs)) rfl ?_ hl (star_cons hs) rfl) fun σ H Q ⟨ρ, S, env, d, S', r, re, e, g⟩ => ?_
  · rw [star_cons hs]; rfl
  obtain ⟨d1, S1, e1, e2⟩ := out_bind e
  split at e2
  · rename_i hL
    obtain ⟨d2, S2, e3, e4⟩ := out_bind e2
    exact rE_go r re e1 fun ρ1 H1 v1 p1 x1 r1 re1 h1 => ⟨isL_v r1 hL h1, rE_go r1 re1 e3 fun ρ2 H2 v2 p2 x2 r2 re2 h2 => ⟨ρ2, S2, d1, [d2], d, S', r2, h1.mono x2 p2, .one h2, e4, goal_later g (p1.trans p2) (x1.trans x2)⟩⟩
  · cases e2
theorem nd_extend {a e : IE} {o : Str} {x : Expr} {ap : Pos} (hl : (ap.endLine == pos.line) = true) (hs : notStar x = true) (ha : PE X (.Name o p) (rE X.K (evE C a))) (he : PE X x (rE X.K (evE C e))) : PE X (.Call (.Attribute (.Name o p) (sOf "extend") ap) [x] [] pos) (rE X.K (evE C (.extend a e))) := by
  refine pe_mono (pe_bm (r := rMe X.K (extL C.lo)) F.plainAttrs_list F.slot_list_extend type_ext mt_ext ha (pa_cons he pa_nil (star_cons hs)) rfl ?_ hl (star_cons hs) rfl) fun σ H Q ⟨ρ, S, env, d, S', r, re, e, g⟩ => ?_
  · rw [star_cons hs]; rfl
  obtain ⟨d1, S1, e1, e2⟩ := out_bind e
  split at e2
  · rename_i hL
    obtain ⟨d2, S2, e3, e4⟩ := out_bind e2
    exact rE_go r re e1 fun ρ1 H1 v1 p1 x1 r1 re1 h1 => ⟨isL_v r1 hL h1, rE_go r1 re1 e3 fun ρ2 H2 v2 p2 x2 r2 re2 h2 => ⟨ρ2, S2, d1, [d2], d, S', r2, h1.mono x2 p2, .one h2, e4, goal_later g (p1.trans p2) (x1.trans x2)⟩⟩
  · cases e2
theorem pop_isL {lo : Nat} {x d : D} {S S' : Sto} (e : popD lo x S = .ok d S') : isL S x = true := by
  unfold popD at e
  unfold isL
  split at e
  · split at e
    · rename_i h; first | rfl | rw [h]
    · cases e
  · cases e
theorem nd_pop {a : IE} {o : Str} {ap : Pos} (hl : (ap.endLine == pos.line) = true) (ha : PE X (.Name o p) (rE X.K (evE C a))) : PE X (.Call (.Attribute (.Name o p) (sOf "pop") ap) [] [] pos) (rE X.K (evE C (.pop a))) := by
  refine pe_mono (pe_bm0 (r := rMe X.K (popL C.lo)) F.plainAttrs_list F.slot_list_pop type_pop mt_popD ha rfl hl) fun σ H Q ⟨ρ, S, env, d, S', r, re, e, g⟩ => ?_
  obtain ⟨d1, S1, e1, e2⟩ := out_bind e
  exact rE_go r re e1 fun ρ1 H1 v1 p1 x1 r1 re1 h1 => ⟨isL_v r1 (pop_isL e2) h1, ρ1, S1, d1, [], d, S', r1, h1, .nil, e2, goal_later g p1 x1⟩
end
end Pd
namespace Pd
open PySem PySem.Spec PyProof.Rows L2
/-! ### targets -/
mutual
def gOf (K : PySem.W.Frag) : Tg → TG
  | .nm i => gName i
  | .tp ts => gTup K ts.length (gsOf K ts)
def gsOf (K : PySem.W.Frag) : List Tg → TGs
  | [] => gNil
  | t :: ts => gCons (gOf K t) (gsOf K ts)
end
theorem asg_star {e : Expr} {es : List Expr} {env : PySem.Env} (h : notStar e = true) : assignEach (e :: es) env = (false, assign e env) :: assignEach es env := by
  cases e <;> first | rfl | cases h
theorem asg_noStars {env : PySem.Env} : ∀ {es : List Expr}, noStars es = true → (assignEach es env).findIdx? (·.1) = none
  | [], _ => rfl
  | e :: es, h => by
    obtain ⟨h1, h2⟩ := Bool.and_eq_true_iff.mp h
    rw [asg_star h1, List.findIdx?_cons, asg_noStars h2]
    rfl
theorem asg_len {env : PySem.Env} : ∀ {es : List Expr}, noStars es = true → (assignEach es env).length = es.length
  | [], _ => rfl
  | e :: es, h => by
    obtain ⟨h1, h2⟩ := Bool.and_eq_true_iff.mp h
    rw [asg_star h1, List.length_cons, List.length_cons, asg_len h2]
theorem mtTgs_len {N : List Str} {sc : Scope} {fn : Str → Bool} : ∀ {ts : List Tg} {es : List Expr}, mtTgs N sc fn ts es = true → noStars es = true ∧ ts.length = es.length
  | [], [], _ => ⟨rfl, rfl⟩
  | [], _ :: _, h => absurd h Bool.false_ne_true
  | _ :: _, [], h => absurd h Bool.false_ne_true
  | t :: ts, e :: es, h => by
    have h' : (notStar e && mtTg N sc fn t e && mtTgs N sc fn ts es) = true := h
    simp only [Bool.and_eq_true] at h'
    obtain ⟨⟨h1, _⟩, h2⟩ := h'
    obtain ⟨h3, h4⟩ := mtTgs_len h2
    exact ⟨by show (notStar e && noStars es) = true; rw [h1, h3]; rfl, by rw [List.length_cons, List.length_cons, h4]⟩
mutual
theorem tgt_ok {X : L2.Cx} {fn : Str → Bool} (hf : ∀ x, fn x = true → X.fn x = true) (hc : X.calm = true) (hN : X.N.Nodup) : ∀ (t : Tg) (e : Expr), mtTg X.N X.env.scope fn t e = true → PG X e (gOf X.K t)
  | .nm i, .Name x p, h => by
    have h' : (decide (X.N[i]? = some x) && (decide (X.env.scope.names.lookup x = some .local) || (decide (X.env.scope.names.lookup x = some .cell) && fn x))) = true := h
    simp only [Bool.and_eq_true, Bool.or_eq_true, decide_eq_true_eq] at h'
    unfold gOf
    rcases h'.2 with q | ⟨q, q2⟩
    · exact pg_name hN h'.1 (.inl q) (.inr q)
    · exact pg_name hN h'.1 (.inr q) (.inl (hf x q2))
  | .tp ts, .Tuple es k p, h => by
    have h' : mtTgs X.N X.env.scope fn ts es = true := h
    obtain ⟨h1, h2⟩ := mtTgs_len h'
    unfold gOf
    rw [h2]
    exact pg_tup hc (tgts_ok hf hc hN ts es h') (asg_len h1) (asg_noStars h1)
  | .nm _, .Tuple .., h => absurd h Bool.false_ne_true
  | .tp _, .Name .., h => absurd h Bool.false_ne_true
  | t, .Constant .., h => by cases t <;> exact absurd h Bool.false_ne_true
  | t, .List .., h => by cases t <;> exact absurd h Bool.false_ne_true
  | t, .BinOp .., h => by cases t <;> exact absurd h Bool.false_ne_true
  | t, .UnaryOp .., h => by cases t <;> exact absurd h Bool.false_ne_true
  | t, .BoolOp .., h => by cases t <;> exact absurd h Bool.false_ne_true
  | t, .Compare .., h => by cases t <;> exact absurd h Bool.false_ne_true
  | t, .Call .., h => by cases t <;> exact absurd h Bool.false_ne_true
  | t, .Attribute .., h => by cases t <;> exact absurd h Bool.false_ne_true
  | t, .Subscript .., h => by cases t <;> exact absurd h Bool.false_ne_true
  | t, .Starred .., h => by cases t <;> exact absurd h Bool.false_ne_true
  | t, .IfExp .., h => by cases t <;> exact absurd h Bool.false_ne_true
  | t, .Dict .., h => by cases t <;> exact absurd h Bool.false_ne_true
  | t, .Set .., h => by cases t <;> exact absurd h Bool.false_ne_true
  | t, .ListComp .., h => by cases t <;> exact absurd h Bool.false_ne_true
  | t, .SetComp .., h => by cases t <;> exact absurd h Bool.false_ne_true
  | t, .DictComp .., h => by cases t <;> exact absurd h Bool.false_ne_true
  | t, .GeneratorExp .., h => by cases t <;> exact absurd h Bool.false_ne_true
  | t, .Lambda .., h => by cases t <;> exact absurd h Bool.false_ne_true
  | t, .Slice .., h => by cases t <;> exact absurd h Bool.false_ne_true
  | t, .NamedExpr .., h => by cases t <;> exact absurd h Bool.false_ne_true
  | t, .Yield .., h => by cases t <;> exact absurd h Bool.false_ne_true
  | t, .YieldFrom .., h => by cases t <;> exact absurd h Bool.false_ne_true
  | t, .Await .., h => by cases t <;> exact absurd h Bool.false_ne_true
  | t, .JoinedStr .., h => by cases t <;> exact absurd h Bool.false_ne_true
  | t, .FormattedValue .., h => by cases t <;> exact absurd h Bool.false_ne_true
theorem tgts_ok {X : L2.Cx} {fn : Str → Bool} (hf : ∀ x, fn x = true → X.fn x = true) (hc : X.calm = true) (hN : X.N.Nodup) : ∀ (ts : List Tg) (es : List Expr), mtTgs X.N X.env.scope fn ts es = true → PGs X es (gsOf X.K ts)
  | [], [], _ => by unfold gsOf; exact pgs_nil
  | [], _ :: _, h => absurd h Bool.false_ne_true
  | _ :: _, [], h => absurd h Bool.false_ne_true
  | t :: ts, e :: es, h => by
    have h' : (notStar e && mtTg X.N X.env.scope fn t e && mtTgs X.N X.env.scope fn ts es) = true := h
    simp only [Bool.and_eq_true] at h'
    obtain ⟨⟨h1, h2⟩, h3⟩ := h'
    unfold gsOf
    exact pgs_cons (tgt_ok hf hc hN t e h2) (tgts_ok hf hc hN ts es h3) (by rw [asg_star h1]; rfl)
end
/-- but for the slots L, σ and σ' are alike -/
def Same (L : List Nat) (σ σ' : L2.St) : Prop := ∀ vs : List Nat, (∀ i ∈ L, i ∈ vs) → L2.wipe σ' vs = L2.wipe σ vs
theorem wipe_set {σ : L2.St} {i : Nat} {o : Option V} : ∀ {vs : List Nat}, i ∈ vs → L2.wipe (σ.set i o) vs = L2.wipe σ vs
  | [], h => by cases h
  | v :: vs, h => by
    show (L2.wipe (σ.set i o) vs).set v none = (L2.wipe σ vs).set v none
    by_cases q : i ∈ vs
    · rw [wipe_set q]
    · have hv : i = v := by
        rcases List.mem_cons.mp h with z | z
        · exact z
        · exact absurd z q
      subst hv
      have : L2.wipe (σ.set i o) vs = (L2.wipe σ vs).set i o := by
        clear h
        induction vs with
        | nil => rfl
        | cons w ws ih =>
          have hw : i ≠ w := fun z => q (z ▸ List.mem_cons_self)
          show (L2.wipe (σ.set i o) ws).set w none = ((L2.wipe σ ws).set w none).set i o
          rw [ih fun z => q (List.mem_cons_of_mem _ z), List.set_comm _ _ hw]
      rw [this, List.set_set]
section
variable {K : PySem.W.Frag} {H : Hp} {ρ : List Addr}
mutual
theorem asg_run : ∀ (t : Tg) (d : D) (env env' : Env) (σ : L2.St) (v : V) (Q : L2.St → Hp → Prop), asg t d env = some env' → Rep K H ρ d v → RepE K H ρ env σ → (∀ σ', RepE K H ρ env' σ' → Same (slots t) σ σ' → Q σ' H) → gOf K t v σ H Q
  | .nm i, d, env, env', σ, v, Q, e, h, re, q => by
    unfold gOf
    unfold asg at e
    refine q _ (re.put e h) fun vs hv => wipe_set (hv i ?_)
    unfold slots
    exact List.mem_cons_self
  | .tp ts, d, env, env', σ, v, Q, e, h, re, q => by
    unfold gOf
    cases d with
    | tup ds =>
      have e2 : asgs ts ds env = some env' := by unfold asg at e; exact e
      unfold Rep at h
      obtain ⟨a, vs, rfl, s, r⟩ := h
      have z := asgs_run ts ds env env' σ vs Q e2 r re fun σ' r2 s2 => q σ' r2 (by unfold slots; exact s2)
      exact ⟨a, vs, rfl, s, by rw [r.len, z.1], z.2⟩
    | _ => unfold asg at e; cases e
theorem asgs_run : ∀ (ts : List Tg) (ds : List D) (env env' : Env) (σ : L2.St) (vs : List V) (Q : L2.St → Hp → Prop), asgs ts ds env = some env' → Reps K H ρ ds vs → RepE K H ρ env σ → (∀ σ', RepE K H ρ env' σ' → Same (slotss ts) σ σ' → Q σ' H) → ds.length = ts.length ∧ gsOf K ts vs σ H Q
  | [], [], env, env', σ, vs, Q, e, h, re, q => by
    unfold gsOf
    unfold Reps at h
    unfold asgs at e
    cases e
    exact ⟨rfl, h, q σ re fun _ _ => rfl⟩
  | [], _ :: _, env, env', σ, vs, Q, e, h, re, q => by unfold asgs at e; cases e
  | _ :: _, [], env, env', σ, vs, Q, e, h, re, q => by unfold asgs at e; cases e
  | t :: ts, d :: ds, env, env', σ, vs, Q, e, h, re, q => by
    unfold gsOf
    unfold asgs at e
    split at e
    · rename_i env1 e1
      unfold Reps at h
      obtain ⟨v, r, rfl, h1, h2⟩ := h
      have hl : ds.length = ts.length := by
        have := asgs_lens ts ds env1 env' e
        exact this
      refine ⟨by rw [List.length_cons, List.length_cons, hl], v, r, rfl, ?_⟩
      refine asg_run t d env env1 σ v _ e1 h1 re fun σ1 r1 s1 => ?_
      refine (asgs_run ts ds env1 env' σ1 r Q e h2 r1 fun σ2 r2 s2 => ?_).2
      refine q σ2 r2 fun vs hv => ?_
      unfold slotss at hv
      rw [s2 vs fun i hi => hv i (List.mem_append_right _ hi), s1 vs fun i hi => hv i (List.mem_append_left _ hi)]
    · cases e
theorem asgs_lens : ∀ (ts : List Tg) (ds : List D) (env env' : Env), asgs ts ds env = some env' → ds.length = ts.length
  | [], [], _, _, _ => rfl
  | [], _ :: _, _, _, e => by unfold asgs at e; cases e
  | _ :: _, [], _, _, e => by unfold asgs at e; cases e
  | t :: ts, d :: ds, env, env', e => by
    unfold asgs at e
    split at e
    · rw [List.length_cons, List.length_cons, asgs_lens ts ds _ env' e]
    · cases e
end
end
end Pd
namespace Pd
open PySem PySem.Spec PyProof.Rows L2
/-! ### sources -/
inductive PEs (X : L2.Cx) (C : Pd.Cx) : List IE → List Expr → Prop
  | nil : PEs X C [] []
  | cons {a : IE} {e : Expr} {as : List IE} {es : List Expr} (h : PE X e (rE X.K (evE C a))) (s : notStar e = true) (r : PEs X C as es) : PEs X C (a :: as) (e :: es)
section
variable {G : GC} {T : Tab} {n : Nat} {C : Pd.Cx} {X : L2.Cx} {pos p p1 p2 p3 p4 : Pos}
theorem PEs.pa {as : List IE} {es : List Expr} (h : PEs X C as es) : PA X es (rA X.K (evs C as)) := by
  induction h with
  | nil => exact nd_nil
  | cons h s r ih => exact nd_cons h ih s
theorem PEs.len {as : List IE} {es : List Expr} (h : PEs X C as es) : as.length = es.length := by
  induction h with
  | nil => rfl
  | cons h s r ih => rw [List.length_cons, List.length_cons, ih]
theorem PEs.stars {as : List IE} {es : List Expr} (h : PEs X C as es) : noStars es = true := by
  induction h with
  | nil => rfl
  | @cons a e as es h s r ih => show (notStar e && noStars es) = true; rw [s, ih]; rfl
def iSrc (K : PySem.W.Frag) (C : Pd.Cx) (k : SK) (es : List IE) : TI := fun σ H R => ∃ ρ S env ds S' src, RepS K H ρ S ∧ RepE K H ρ env σ ∧ evs C es env S = .ok ds S' ∧ mkSrc S' k ds = some src ∧
  ∀ ρ' H' J, Pre ρ ρ' → Ext H H' → RepS K H' ρ' S' → SrcAt K H' ρ' src J → R J H'
theorem pi_mono {tg e : Expr} {t t' : TI} (h : PI X tg e t) (hm : ∀ σ H R, t' σ H R → t σ H R) : PI X tg e t' := ⟨fun pins s σ H R I q => h.run pins s σ H R I (hm σ H R q)⟩
theorem evs_one {a : IE} {env : Env} {S S' : Sto} {ds : List D} (e : evs C [a] env S = .ok ds S') : ∃ d, ds = [d] ∧ evE C a env S = .ok d S' := by
  obtain ⟨d, S1, e1, e2⟩ := out_bind e
  obtain ⟨es, S2, e3, e4⟩ := out_bind e2
  obtain ⟨rfl, rfl⟩ := out_inj e3
  obtain ⟨rfl, rfl⟩ := out_inj e4
  exact ⟨d, rfl, e1⟩
theorem seqSrc_at {K : PySem.W.Frag} {H : Hp} {ρ : List Addr} {S : Sto} {d : D} {src : Src} {v : V} (r : RepS K H ρ S) (e : seqSrc S d = some src) (h : Rep K H ρ d v) :
    ∃ a, v = .ref a ∧ ((∃ m xs, src = .lst m ∧ SqL K H a xs ∧ ρ[m]? = some a) ∨ (∃ ds xs, src = .tup ds ∧ SqT K H a xs ∧ Reps K H ρ ds xs)) := by
  unfold seqSrc at e
  split at e
  · cases e
    unfold Rep at h
    obtain ⟨a, vs, rfl, s, q⟩ := h
    exact ⟨a, rfl, .inr ⟨_, vs, rfl, s, q⟩⟩
  · rename_i m
    split at e
    · rename_i xs hx
      cases e
      obtain ⟨a, vs, rfl, q, hh⟩ := r.items hx h
      unfold Rep at h
      obtain ⟨b, hb, eb⟩ := h
      cases eb
      rcases hh with ⟨_, _, hh⟩ | ⟨hh, _⟩
      · exact ⟨a, rfl, .inl ⟨m, vs, rfl, hh, hb⟩⟩
      · cases hh
    · cases e
  · cases e
theorem pi_any {tg l : Expr} {tl : TE} (hl : PE X l tl) : PI X tg l (fun σ H R => tl σ H fun x H1 => ∃ a, x = .ref a ∧ ((∃ xs, SqL X.K H1 a xs ∧ R (Itl X.K a) H1) ∨ (∃ xs, SqT X.K H1 a xs ∧ R (Itt X.K a) H1))) := by
  refine ⟨fun pins s σ H R I h => ?_⟩
  refine thn (hl.run pins s σ H _ I h) fun v s1 ⟨x, H1, I1, r1, q1⟩ => ?_
  obtain ⟨a, e, q⟩ := q1
  subst e
  cases r1
  rcases q with ⟨xs, hq, q⟩ | ⟨xs, hq, q⟩
  · obtain ⟨its, rv, p, hz⟩ := I1.list hq
    refine wpAny_pyIter_list p.isList ?_
    refine ⟨s1.heap.objs.size, [s1.heap.objs.size], _, _, H1, rfl, I1.kept (t' := s1.toks) fun b o e => Heap.get?_push_of_some _ e, turn_list a _, ⟨_, Heap.get?_push_size _ rfl, rfl, rfl⟩, fun b hb => ?_, q⟩
    have e : b = s1.heap.objs.size := by simpa using hb
    subst e
    exact I1.fpOk (Nat.le_refl _) (I1.hok.fresh (Nat.le_refl _))
  · obtain ⟨its, rv, p, hz⟩ := I1.tuple hq
    refine wpAny_pyIter_tuple (show s1.heap.IsTuple a its.toArray from p) ?_
    refine ⟨s1.heap.objs.size, [s1.heap.objs.size], _, _, H1, rfl, I1.kept (t' := s1.toks) fun b o e => Heap.get?_push_of_some _ e, turn_tuple a _, ⟨_, Heap.get?_push_size _ rfl, rfl, rfl⟩, fun b hb => ?_, q⟩
    have e : b = s1.heap.objs.size := by simpa using hb
    subst e
    exact I1.fpOk (Nat.le_refl _) (I1.hok.fresh (Nat.le_refl _))
theorem src_seq {a : IE} {tg e : Expr} (h : PE X e (rE X.K (evE C a))) : PI X tg e (iSrc X.K C .seq [a]) := by
  refine pi_mono (pi_any h) fun σ H R ⟨ρ, S, env, ds, S', src, r, re, e, m, q⟩ => ?_
  obtain ⟨d, rfl, e1⟩ := evs_one e
  refine rE_go r re e1 fun ρ1 H1 v p x r1 re1 h1 => ?_
  obtain ⟨b, rfl, z⟩ := seqSrc_at r1 m h1
  rcases z with ⟨m, xs, rfl, s, hb⟩ | ⟨ds, xs, rfl, s, hb⟩
  · exact ⟨b, rfl, .inl ⟨xs, s, q ρ1 H1 _ p x r1 ⟨b, hb, rfl⟩⟩⟩
  · exact ⟨b, rfl, .inr ⟨xs, s, q ρ1 H1 _ p x r1 ⟨b, xs, s, hb, rfl⟩⟩⟩
theorem inB_of {j : Int} (h : inB j = true) : -(2 ^ 62) ≤ j ∧ j < 2 ^ 62 := by
  unfold inB at h
  simp only [Bool.and_eq_true, decide_eq_true_eq] at h
  exact h
theorem src_rng1 (O : Ok G T n C X) {tg e : Expr} {as : List IE} {f : Str} (hf : f = sOf "range") (hfr : freeB G X.env.scope f = true) (h : PEs X C as [e]) : PI X tg (.Call (.Name f p) [e] [] pos) (iSrc X.K C .range as) := by
  subst hf
  obtain ⟨g1, g2, g3, g4⟩ := free_of O hfr
  have hs : notStar e = true := by cases h with | cons _ s _ => exact s
  refine pi_mono (pi_range1 g1 g2 h.pa (star_cons hs)) fun σ H R ⟨ρ, S, env, ds, S', src, r, re, e, m, q⟩ => ?_
  have hl := evs_len e
  rw [h.len] at hl
  refine rA_go r re e fun ρ1 H1 vs p x r1 re1 h1 => ?_
  unfold mkSrc at m
  split at m
  · cases ‹SK.range = _›
  · obtain ⟨v, rfl, h2⟩ := reps1 h1
    split at m
    · rename_i hb
      cases m
      exact ⟨_, by rw [rep_int h2], (inB_of hb).1, (inB_of hb).2, q ρ1 H1 _ p x r1 rfl⟩
    · cases m
  · cases hl
  all_goals first | (cases ‹SK.range = _›; done) | cases m
theorem src_rng2 (O : Ok G T n C X) {tg e e2 : Expr} {as : List IE} {f : Str} (hf : f = sOf "range") (hfr : freeB G X.env.scope f = true) (h : PEs X C as [e, e2]) : PI X tg (.Call (.Name f p) [e, e2] [] pos) (iSrc X.K C .range as) := by
  subst hf
  obtain ⟨g1, g2, g3, g4⟩ := free_of O hfr
  have hs : notStar e = true := by cases h with | cons _ s _ => exact s
  have hs2 : notStar e2 = true := by cases h with | cons _ _ r => cases r with | cons _ s _ => exact s
  refine pi_mono (pi_range2 g1 g2 h.pa (by rw [star_cons hs, star_cons hs2]; rfl) (star_cons hs2)) fun σ H R ⟨ρ, S, env, ds, S', src, r, re, e, m, q⟩ => ?_
  have hl := evs_len e
  rw [h.len] at hl
  refine rA_go r re e fun ρ1 H1 vs p x r1 re1 h1 => ?_
  unfold mkSrc at m
  split at m
  · cases ‹SK.range = _›
  · cases hl
  · obtain ⟨v, w, rfl, h2, h3⟩ := reps2 h1
    split at m
    · rename_i hb
      cases m
      obtain ⟨b1, b2⟩ := Bool.and_eq_true_iff.mp hb
      exact ⟨_, _, by rw [rep_int h2, rep_int h3], ⟨(inB_of b1).1, (inB_of b1).2, (inB_of b2).1, (inB_of b2).2⟩, q ρ1 H1 _ p x r1 rfl⟩
    · cases m
  all_goals first | (cases ‹SK.range = _›; done) | cases m
theorem src_enum (O : Ok G T n C X) {e : Expr} {elts : List Expr} {kk : Nat} {tpos : Pos} {as : List IE} {f : Str} (hf : f = sOf "enumerate") (hfr : freeB G X.env.scope f = true) (h : PEs X C as [e]) : PI X (.Tuple elts kk tpos) (.Call (.Name f p) [e] [] pos) (iSrc X.K C .enum as) := by
  subst hf
  obtain ⟨g1, g2, g3, g4⟩ := free_of O hfr
  have hs : notStar e = true := by cases h with | cons _ s _ => exact s
  refine pi_mono (pi_enumT g1 g2 h.pa (star_cons hs)) fun σ H R ⟨ρ, S, env, ds, S', src, r, re, e, m, q⟩ => ?_
  refine rA_go r re e fun ρ1 H1 vs p x r1 re1 h1 => ?_
  unfold mkSrc at m
  split at m
  all_goals first | (cases ‹SK.enum = _›; done) | (exfalso; cases m; done) | skip
  obtain ⟨v, rfl, h2⟩ := reps1 h1
  obtain ⟨src0, e0, rfl⟩ := Option.map_eq_some_iff.mp m
  obtain ⟨b, rfl, z⟩ := seqSrc_at r1 e0 h2
  rcases z with ⟨m, xs, rfl, s, hb⟩ | ⟨ds, xs, rfl, s, hb⟩
  · exact ⟨b, xs, rfl, .inl ⟨s, q ρ1 H1 _ p x r1 ⟨b, hb, rfl⟩⟩⟩
  · exact ⟨b, xs, rfl, .inr ⟨s, q ρ1 H1 _ p x r1 ⟨b, xs, s, hb, rfl⟩⟩⟩
theorem lst_at {K : PySem.W.Frag} {H : Hp} {ρ : List Addr} {S : Sto} {m : Nat} {xs : List D} {v : V} (r : RepS K H ρ S) (e : items S (.ref m) = some xs) (h : Rep K H ρ (.ref m) v) : ∃ a vs, v = .ref a ∧ ρ[m]? = some a ∧ SqL K H a vs ∧ Reps K H ρ xs vs := by
  obtain ⟨a, vs, rfl, q, hh⟩ := r.items e h
  unfold Rep at h
  obtain ⟨b, hb, eb⟩ := h
  cases eb
  rcases hh with ⟨_, _, hh⟩ | ⟨hh, _⟩
  · exact ⟨a, vs, rfl, hb, hh, q⟩
  · cases hh
theorem src_zip (O : Ok G T n C X) {e e2 : Expr} {elts : List Expr} {kk : Nat} {tpos : Pos} {as : List IE} {f : Str} (hf : f = sOf "zip") (hfr : freeB G X.env.scope f = true) (h : PEs X C as [e, e2]) : PI X (.Tuple elts kk tpos) (.Call (.Name f p) [e, e2] [] pos) (iSrc X.K C .zip as) := by
  subst hf
  obtain ⟨g1, g2, g3, g4⟩ := free_of O hfr
  have hs : notStar e = true := by cases h with | cons _ s _ => exact s
  have hs2 : notStar e2 = true := by cases h with | cons _ _ r => cases r with | cons _ s _ => exact s
  refine pi_mono (RZ.pi_zipA g1 g2 h.pa (star_cons hs) (by rw [star_cons hs2]; rfl)) fun σ H R ⟨ρ, S, env, ds, S', src, r, re, e, m, q⟩ => ?_
  refine rA_go r re e fun ρ1 H1 vs p x r1 re1 h1 => ?_
  unfold mkSrc at m
  split at m
  all_goals first | (cases ‹SK.zip = _›; done) | (exfalso; cases m; done) | skip
  · obtain ⟨v, w, rfl, h2, h3⟩ := reps2 h1
    cases m
    unfold Rep at h2 h3
    obtain ⟨a, vs, rfl, s, q1⟩ := h2
    obtain ⟨b, ws, rfl, t, q2⟩ := h3
    exact ⟨a, b, vs, ws, rfl, .inr ⟨s, t, q ρ1 H1 _ p x r1 ⟨a, b, vs, ws, s, q1, t, q2, rfl⟩⟩⟩
  · obtain ⟨v, w, rfl, h2, h3⟩ := reps2 h1
    split at m
    · rename_i i1 i2
      cases m
      obtain ⟨a, vs, rfl, ha, s, _⟩ := lst_at r1 i1 h2
      obtain ⟨b, ws, rfl, hb, t, _⟩ := lst_at r1 i2 h3
      exact ⟨a, b, vs, ws, rfl, .inl ⟨s, t, q ρ1 H1 _ p x r1 ⟨a, b, ha, hb, rfl⟩⟩⟩
    · cases m
theorem src_rev (O : Ok G T n C X) {tg e : Expr} {as : List IE} {f : Str} (hf : f = sOf "reversed") (hfr : freeB G X.env.scope f = true) (h : PEs X C as [e]) : PI X tg (.Call (.Name f p) [e] [] pos) (iSrc X.K C .rev as) := by
  subst hf
  obtain ⟨g1, g2, g3, g4⟩ := free_of O hfr
  cases h with
  | @cons a _ _ _ he hs hr =>
    cases hr
    refine pi_mono (RT.pi_revA g1 g2 he (star_cons hs)) fun σ H R ⟨ρ, S, env, ds, S', src, r, re, e, m, q⟩ => ?_
    obtain ⟨d, rfl, e1⟩ := evs_one e
    refine rE_go r re e1 fun ρ1 H1 v p x r1 re1 h1 => ?_
    unfold mkSrc at m
    split at m
    all_goals first | (cases ‹SK.rev = _›; done) | (exfalso; cases m; done) | skip
    · rename_i hd
      cases hd
      cases m
      unfold Rep at h1
      obtain ⟨a, vs, rfl, s, q1⟩ := h1
      exact ⟨a, vs, rfl, .inr ⟨s, q ρ1 H1 _ p x r1 ⟨a, vs, s, q1, rfl⟩⟩⟩
    · rename_i hd
      cases hd
      obtain ⟨xs, i1, rfl⟩ := Option.map_eq_some_iff.mp m
      obtain ⟨a, vs, rfl, ha, s, q1⟩ := lst_at r1 i1 h1
      refine ⟨a, vs, rfl, .inl ⟨s, q ρ1 H1 _ p x r1 ⟨a, ha, ?_⟩⟩⟩
      rw [q1.len]
end
end Pd
namespace Pd
open PySem PySem.Spec PyProof.Rows L2
/-! ### statements: readings -/
def FlG (K : PySem.W.Frag) (D : Ends) (H : Hp) (ρ : List Addr) : Fl → Prop
  | .nx env => ∀ σ, RepE K H ρ env σ → D.nx σ H
  | .rt d => ∀ v, Rep K H ρ d v → D.rt v H
  | .bk env => ∀ σ, RepE K H ρ env σ → D.bk σ H
  | .ct env => ∀ σ, RepE K H ρ env σ → D.ct σ H
def GoalS (K : PySem.W.Frag) (D : Ends) (H : Hp) (ρ : List Addr) (fl : Fl) (S' : Sto) : Prop := ∀ ρ' H', Pre ρ ρ' → Ext H H' → RepS K H' ρ' S' → FlG K D H' ρ' fl
def rS (K : PySem.W.Frag) (f : Env → Sto → Out Fl) : TS := fun D σ H => ∃ ρ S env fl S', RepS K H ρ S ∧ RepE K H ρ env σ ∧ f env S = .ok fl S' ∧ GoalS K D H ρ fl S'
theorem GoalS.later {K : PySem.W.Frag} {D : Ends} {H H1 : Hp} {ρ ρ1 : List Addr} {fl : Fl} {S' : Sto} (g : GoalS K D H ρ fl S') (p : Pre ρ ρ1) (x : Ext H H1) : GoalS K D H1 ρ1 fl S' := fun ρ' H' p' x' r => g ρ' H' (p.trans p') (x.trans x') r
theorem GoalS.now {K : PySem.W.Frag} {D : Ends} {H : Hp} {ρ : List Addr} {fl : Fl} {S' : Sto} (g : GoalS K D H ρ fl S') (r : RepS K H ρ S') : FlG K D H ρ fl := g ρ H .refl .refl r
theorem ps_mono {X : L2.Cx} {st : Stmt} {t t' : TS} (h : PS X st t) (hm : ∀ D σ H, t' D σ H → t D σ H) : PS X st t' := ⟨fun pins s σ H D I q => h.run pins s σ H D I (hm D σ H q)⟩
theorem pss_mono {X : L2.Cx} {st : List Stmt} {t t' : TS} (h : PSs X st t) (hm : ∀ D σ H, t' D σ H → t D σ H) : PSs X st t' := ⟨fun pins s σ H D I q => h.run pins s σ H D I (hm D σ H q)⟩
section
variable {G : GC} {T : Tab} {n : Nat} {C : Pd.Cx} {X : L2.Cx} {pos p p1 p2 p3 p4 : Pos}
theorem ns_nil : PSs X [] (rS X.K (evB C [])) := by
  refine pss_mono pss_nil fun D σ H ⟨ρ, S, env, fl, S', r, re, e, g⟩ => ?_
  obtain ⟨rfl, rfl⟩ := out_inj e
  exact g.now r σ re
theorem ns_cons {a : IS} {as : List IS} {st : Stmt} {sts : List Stmt} (h1 : PS X st (rS X.K (evS C a))) (h2 : PSs X sts (rS X.K (evB C as))) : PSs X (st :: sts) (rS X.K (evB C (a :: as))) := by
  refine pss_mono (pss_cons h1 h2) fun D σ H ⟨ρ, S, env, fl, S', r, re, e, g⟩ => ?_
  obtain ⟨fl1, S1, e1, e2⟩ := out_bind e
  refine ⟨ρ, S, env, fl1, S1, r, re, e1, fun ρ1 H1 p x r1 => ?_⟩
  cases fl1 with
  | nx env1 => exact fun σ1 re1 => ⟨ρ1, S1, env1, fl, S', r1, re1, e2, g.later p x⟩
  | rt d => obtain ⟨rfl, rfl⟩ := out_inj e2; exact (g.later p x).now r1
  | bk env1 => obtain ⟨rfl, rfl⟩ := out_inj e2; exact (g.later p x).now r1
  | ct env1 => obtain ⟨rfl, rfl⟩ := out_inj e2; exact (g.later p x).now r1
theorem set_read {t : Tg} {a : IE} {D : Ends} {σ : L2.St} {H : Hp} (h : rS X.K (evS C (.set t a)) D σ H) : tAsg (rE X.K (evE C a)) (gOf X.K t) D σ H := by
  obtain ⟨ρ, S, env, fl, S', r, re, e, g⟩ := h
  obtain ⟨d, S1, e1, e2⟩ := out_bind e
  refine rE_go r re e1 fun ρ1 H1 v p x r1 re1 h1 => ?_
  split at e2
  · rename_i env1 he
    obtain ⟨rfl, rfl⟩ := out_inj e2
    exact asg_run t d env env1 σ v _ he h1 re1 fun σ' r2 _ => (g.later p x).now r1 σ' r2
  · cases e2
theorem ns_set {t : Tg} {a : IE} {tg e : Expr} (he : PE X e (rE X.K (evE C a))) (hg : PG X tg (gOf X.K t)) (hs : swapsWithSole [tg] e pos.line X.env = pure false) (hw : swappedStores [tg] e X.env = pure none) (h1 : notStar tg = true) :
    PS X (.Assign [tg] e pos) (rS X.K (evS C (.set t a))) := ps_mono (ps_asg he hg hs hw (by rw [asg_star h1]; rfl)) fun D σ H h => set_read h
theorem plain_asg {o i : Expr} (h : plainIx i = true) (v : Value) : assign (.Subscript o i p) X.env v = (do
      let ov ← holding [v] (eval o X.env)
      let iv ← holding [v, ov] (eval i X.env)
      standAt p
      holding [v, ov, iv] (setItem ov iv v)
      release [v, ov, iv] []) := by cases i <;> first | rfl | cases h
theorem ns_setix (hu : X.A.units + 1 < cLine) {o i a : IE} {xo xi e : Expr} (he : PE X e (rE X.K (evE C a))) (ho : PE X xo (rE X.K (evE C o))) (hi : PE X xi (rE X.K (evE C i))) (hp : plainIx xi = true) (hs : swapsWithSole [.Subscript xo xi p] e pos.line X.env = pure false) :
    PS X (.Assign [.Subscript xo xi p] e pos) (rS X.K (evS C (.setix o i a))) := by
  refine ps_mono (ps_asg he (pg_sub ho hi (set_row (lo := C.lo) hu) (plain_asg hp)) hs rfl rfl) fun D σ H ⟨ρ, S, env, fl, S', r, re, e, g⟩ => ?_
  obtain ⟨d, S1, e1, e2⟩ := out_bind e
  obtain ⟨d2, S2, e3, e4⟩ := out_bind e2
  obtain ⟨d3, S3, e5, e6⟩ := out_bind e4
  refine rE_go r re e1 fun ρ1 H1 v p x r1 re1 h1 => rE_go r1 re1 e3 fun ρ2 H2 v2 p2 x2 r2 re2 h2 => rE_go r2 re2 e5 fun ρ3 H3 v3 p3 x3 r3 re3 h3 => ?_
  split at e6
  · rename_i S4 hS
    obtain ⟨rfl, rfl⟩ := out_inj e6
    exact ⟨ρ3, S3, d2, d3, d, _, r3, h2.mono x3 p3, h3, h1.mono (x2.trans x3) (p2.trans p3), hS, fun ρ' H' p' x' r' => g ρ' H' (((p.trans p2).trans p3).trans p') (((x.trans x2).trans x3).trans x') r' σ (re3.mono x' p')⟩
  · cases e6
theorem ns_ex {a : IE} {e : Expr} (he : PE X e (rE X.K (evE C a))) (hs : swapsWith e none pos.line X.env = pure false) : PS X (.Expr e pos) (rS X.K (evS C (.ex a))) := by
  refine ps_mono (ps_expr he hs) fun D σ H ⟨ρ, S, env, fl, S', r, re, e, g⟩ => ?_
  obtain ⟨d, S1, e1, e2⟩ := out_bind e
  obtain ⟨rfl, rfl⟩ := out_inj e2
  exact rE_go r re e1 fun ρ1 H1 v p x r1 re1 h1 => (g.later p x).now r1 σ re1
theorem ns_ret {a : IE} {e : Expr} (he : PE X e (rE X.K (evE C a))) : PS X (.Return (some e) pos) (rS X.K (evS C (.ret a))) := by
  refine ps_mono (ps_ret he) fun D σ H ⟨ρ, S, env, fl, S', r, re, e, g⟩ => ?_
  obtain ⟨d, S1, e1, e2⟩ := out_bind e
  obtain ⟨rfl, rfl⟩ := out_inj e2
  exact rE_go r re e1 fun ρ1 H1 v p x r1 re1 h1 => (g.later p x).now r1 v h1
theorem ns_retN : PS X (.Return none pos) (rS X.K (evS C .retN)) := by
  refine ps_mono ps_retN fun D σ H ⟨ρ, S, env, fl, S', r, re, e, g⟩ => ?_
  obtain ⟨rfl, rfl⟩ := out_inj e
  exact g.now r .non rep_non'
theorem ns_if {c : IT} {as bs : List IS} {e : Expr} {xs ys : List Stmt} (hc : PT X e (rT X.K (evT C c))) (ha : PSs X xs (rS X.K (evB C as))) (hb : PSs X ys (rS X.K (evB C bs))) : PS X (.If e xs ys pos) (rS X.K (evS C (.iff c as bs))) := by
  refine ps_mono (ps_if hc ha hb) fun D σ H ⟨ρ, S, env, fl, S', r, re, e, g⟩ => ?_
  obtain ⟨k, S1, e1, e2⟩ := out_bind e
  refine rT_go r re e1 fun ρ1 H1 p x r1 re1 => ?_
  cases k with
  | true => exact ⟨ρ1, S1, env, fl, S', r1, re1, e2, g.later p x⟩
  | false => exact ⟨ρ1, S1, env, fl, S', r1, re1, e2, g.later p x⟩
theorem ns_pass : PS X (.Pass pos) (rS X.K (evS C .pass)) := by
  refine ps_mono ps_pass fun D σ H ⟨ρ, S, env, fl, S', r, re, e, g⟩ => ?_
  obtain ⟨rfl, rfl⟩ := out_inj e
  exact g.now r σ re
theorem ns_brk : PS X (.Break pos) (rS X.K (evS C .brk)) := by
  refine ps_mono ps_break fun D σ H ⟨ρ, S, env, fl, S', r, re, e, g⟩ => ?_
  obtain ⟨rfl, rfl⟩ := out_inj e
  exact g.now r σ re
theorem ns_cont : PS X (.Continue pos) (rS X.K (evS C .cont)) := by
  refine ps_mono ps_continue fun D σ H ⟨ρ, S, env, fl, S', r, re, e, g⟩ => ?_
  obtain ⟨rfl, rfl⟩ := out_inj e
  exact g.now r σ re
theorem ns_never {st : Stmt} : PS X st (rS X.K (evS C .never)) := by
  refine ps_mono ps_never fun D σ H ⟨ρ, S, env, fl, S', r, re, e, g⟩ => ?_
  exact (no_bad e).elim
/-! ### loops -/
theorem ns_while {c : IT} {body : List IS} {e : Expr} {xs : List Stmt} (hp : X.xe = fun _ _ => False) (hc : PT X e (rT X.K (evT C c))) (hb : PSs X xs (rS X.K (evB C body))) : PS X (.While e xs [] pos) (rS X.K (evS C (.whil c body))) := by
  refine ps_mono (ps_while (by rw [hp]; exact PassesOwn.never) hc hb) fun D σ H ⟨ρ, S, env, fl, S', r, re, e, g⟩ => ?_
  refine ⟨fun m σ1 H1 => ∃ ρ1 S1 env1, Pre ρ ρ1 ∧ Ext H H1 ∧ RepS X.K H1 ρ1 S1 ∧ RepE X.K H1 ρ1 env1 σ1 ∧ whileL (evT C c) (evB C body) m env1 S1 = .ok fl S', ⟨whileMax, ρ, S, env, .refl, .refl, r, re, e⟩, ?_⟩
  intro m σ1 H1 ⟨ρ1, S1, env1, p1, x1, r1, re1, e1⟩
  cases m with
  | zero => exact (no_bad e1).elim
  | succ m =>
    obtain ⟨k, S2, e2, e3⟩ := out_bind e1
    refine rT_go r1 re1 e2 fun ρ2 H2 p2 x2 r2 re2 => ?_
    cases k with
    | false =>
      obtain ⟨rfl, rfl⟩ := out_inj e3
      exact g ρ2 H2 (p1.trans p2) (x1.trans x2) r2 σ1 re2
    | true =>
      obtain ⟨fl1, S3, e4, e5⟩ := out_bind e3
      refine ⟨fun σ' H' => ∃ ρ1 S1 env1, Pre ρ ρ1 ∧ Ext H H' ∧ RepS X.K H' ρ1 S1 ∧ RepE X.K H' ρ1 env1 σ' ∧ whileL (evT C c) (evB C body) m env1 S1 = .ok fl S', fun σ' H' h => ⟨m, Nat.lt_succ_self _, h⟩, ρ2, S2, env1, fl1, S3, r2, re2, e4, fun ρ3 H3 p3 x3 r3 => ?_⟩
      cases fl1 with
      | nx env3 => exact fun σ3 re3 => ⟨ρ3, S3, env3, (p1.trans p2).trans p3, (x1.trans x2).trans x3, r3, re3, e5⟩
      | ct env3 => exact fun σ3 re3 => ⟨ρ3, S3, env3, (p1.trans p2).trans p3, (x1.trans x2).trans x3, r3, re3, e5⟩
      | bk env3 =>
        obtain ⟨rfl, rfl⟩ := out_inj e5
        exact g ρ3 H3 ((p1.trans p2).trans p3) ((x1.trans x2).trans x3) r3
      | rt d =>
        obtain ⟨rfl, rfl⟩ := out_inj e5
        exact g ρ3 H3 ((p1.trans p2).trans p3) ((x1.trans x2).trans x3) r3
theorem ns_for {tg : Tg} {k : SK} {es : List IE} {body : List IS} {tgt iter : Expr} {xs : List Stmt} (hp : X.xe = fun _ _ => False) (hc : X.calm = true) (hi : PI X tgt iter (iSrc X.K C k es)) (hg : PG X tgt (gOf X.K tg)) (hb : PSs X xs (rS X.K (evB C body)))
    (hs : ∀ x, foldedSetIterable iter X.env x = pure x) : PS X (.For tgt iter xs [] pos) (rS X.K (evS C (.loop tg k es body))) := by
  refine ps_mono (ps_for (by rw [hp]; exact PassesOwn.never) hc hi hg hb hs) fun D σ H ⟨ρ, S, env, fl, S', r, re, e, g⟩ => ?_
  obtain ⟨ds, S1, e1, e2⟩ := out_bind e
  split at e2
  rotate_left
  · cases e2
  rename_i src hsrc
  refine ⟨ρ, S, env, ds, S1, src, r, re, e1, hsrc, fun ρ1 H1 J p1 x1 r1 sa => ?_⟩
  generalize hf : (fun d σ S => match asg tg d σ with | some σ => evB C body σ S | none => Out.bad) = f at e2
  generalize src.size S1 + 1 = N at e2
  have re1 := re.mono x1 p1
  let W : Nat → Nat → L2.St → Hp → Prop := fun i m σ2 H2 => ∃ ρ2 S2 env2, Pre ρ1 ρ2 ∧ Ext H1 H2 ∧ RepS X.K H2 ρ2 S2 ∧ RepE X.K H2 ρ2 env2 σ2 ∧ forL src f m i env2 S2 = .ok fl S'
  refine ⟨W, ⟨N, ρ1, S1, env, .refl, .refl, r1, re1, e2⟩, ?_⟩
  intro i m σ2 H2 ⟨ρ2, S2, env2, p2, x2, r2, re2, e3⟩
  cases m with
  | zero => exact (no_bad e3).elim
  | succ m =>
    have sa2 := sa.mono x2 p2
    have tn := sa2.turn (i := i) r2
    have e4 : (match src.item S2 i with
      | none => Out.bad
      | some none => Out.ok (Fl.nx env2) S2
      | some (some d) => (f d env2 S2).bind fun fl S => match fl with
        | .nx σ => forL src f m (i + 1) σ S
        | .ct σ => forL src f m (i + 1) σ S
        | .bk σ => Out.ok (Fl.nx σ) S
        | .rt d => Out.ok (Fl.rt d) S) = .ok fl S' := e3
    split at e4
    · cases e4
    · rename_i hn
      obtain ⟨rfl, rfl⟩ := out_inj e4
      exact .inl ⟨tn.1 hn, g ρ2 H2 (p1.trans p2) (x1.trans x2) r2 σ2 re2⟩
    · rename_i d hd
      obtain ⟨fl1, S3, e5, e6⟩ := out_bind e4
      refine .inr ⟨(tn.2 d hd).1, W (i + 1) m, fun σ' H' h => ⟨m, Nat.lt_succ_self _, h⟩, fun y H3 hy => ?_⟩
      obtain ⟨x3, r3, h3⟩ := (tn.2 d hd).2 y H3 hy
      rw [← hf] at e5
      dsimp only at e5
      split at e5
      · rename_i env3 ha
        refine asg_run tg d env2 env3 σ2 y _ ha h3 (re2.mono x3 .refl) fun σ3 re3 _ => ⟨ρ2, S2, env3, fl1, S3, r3, re3, e5, fun ρ4 H4 p4 x4 r4 => ?_⟩
        cases fl1 with
        | nx env4 => exact fun σ4 re4 => ⟨ρ4, S3, env4, p2.trans p4, (x2.trans x3).trans x4, r4, re4, e6⟩
        | ct env4 => exact fun σ4 re4 => ⟨ρ4, S3, env4, p2.trans p4, (x2.trans x3).trans x4, r4, re4, e6⟩
        | bk env4 =>
          obtain ⟨rfl, rfl⟩ := out_inj e6
          exact g ρ4 H4 ((p1.trans p2).trans p4) (((x1.trans x2).trans x3).trans x4) r4
        | rt d =>
          obtain ⟨rfl, rfl⟩ := out_inj e6
          exact g ρ4 H4 ((p1.trans p2).trans p4) (((x1.trans x2).trans x3).trans x4) r4
      · cases e5
/-! ### comprehensions -/
theorem wipe_sub {σ : L2.St} {vs : List Nat} : ∀ {ws : List Nat}, (∀ i ∈ ws, i ∈ vs) → L2.wipe (L2.wipe σ ws) vs = L2.wipe σ vs
  | [], _ => rfl
  | w :: ws, h => by
    show L2.wipe ((L2.wipe σ ws).set w none) vs = L2.wipe σ vs
    rw [wipe_set (h w List.mem_cons_self), wipe_sub fun i hi => h i (List.mem_cons_of_mem _ hi)]
theorem lc_read {own : List Nat} {tg : Tg} {k : SK} {es : List IE} {cs : List IT} {a : IE} {σ : L2.St} {H : Hp} {Q : VK} (hown : ∀ i ∈ slots tg, i ∈ own) (h : rE X.K (evE C (.lc own tg k es cs a)) σ H Q) :
    tLc (iSrc X.K C k es) (gOf X.K tg) (rT X.K (evC C cs)) (rE X.K (evE C a)) own σ H Q := by
  obtain ⟨ρ, S, env, d, S', r, re, e, g⟩ := h
  obtain ⟨ds, S1, e1, e2⟩ := out_bind e
  split at e2
  rotate_left
  · cases e2
  rename_i src hsrc
  refine ⟨ρ, S, env, ds, S1, src, r, re, e1, hsrc, fun ρ1 H1 J p1 x1 r1 sa => ?_⟩
  generalize hf : (fun d S => match asg tg d (wipeE env own) with
        | some σ => (evC C cs σ S).bind fun b S => if b = true then (evE C a σ S).bind fun y S => .ok (some y) S else .ok none S
        | none => Out.bad) = f at e2
  generalize src.size S1 + 1 = N at e2
  intro L hL
  have xL : Ext H1 (upd H1 L (.lst [])) := .new hL
  have rL : RepS X.K (upd H1 L (.lst [])) (ρ1 ++ [L]) (S1 ++ [.lst []]) := r1.new hL ⟨[], upd_same, .nil⟩
  have hat : (ρ1 ++ [L])[S1.length]? = some L := by rw [← r1.len, List.getElem?_append_right (Nat.le_refl _), Nat.sub_self]; rfl
  generalize hn : S1.length = nn at e2 hat
  let W : Nat → Nat → Hp → Prop := fun i m H2 => ∃ ρ2 S2, Pre (ρ1 ++ [L]) ρ2 ∧ Ext (upd H1 L (.lst [])) H2 ∧ RepS X.K H2 ρ2 S2 ∧ lcL src nn f m i S2 = .ok d S'
  refine ⟨W, ⟨N, ρ1 ++ [L], S1 ++ [.lst []], .refl, .refl, rL, e2⟩, ?_⟩
  intro i m H2 ⟨ρ2, S2, p2, x2, r2, e3⟩
  have pA : Pre ρ ρ2 := (p1.trans .app).trans p2
  have xA : Ext H H2 := (x1.trans xL).trans x2
  cases m with
  | zero => exact (no_bad e3).elim
  | succ m =>
    have sa2 := sa.mono (xL.trans x2) (Pre.trans .app p2)
    have tn := sa2.turn (i := i) r2
    have e4 : (match src.item S2 i with
      | none => Out.bad
      | some none => Out.ok (D.ref nn) S2
      | some (some d) => (f d S2).bind fun y S => match y with
        | none => lcL src nn f m (i + 1) S
        | some y => match S[nn]? with
          | some (.lst acc) => if acc.length < sizeLine then lcL src nn f m (i + 1) (S.set nn (.lst (acc ++ [y]))) else .bad
          | _ => .bad) = .ok d S' := e3
    split at e4
    · cases e4
    · rename_i hno
      obtain ⟨rfl, rfl⟩ := out_inj e4
      refine .inl ⟨tn.1 hno, g ρ2 H2 _ pA xA r2 ?_⟩
      unfold Rep
      exact ⟨L, p2 _ _ hat, rfl⟩
    · rename_i d0 hd
      obtain ⟨y0, S3, e5, e6⟩ := out_bind e4
      refine .inr ⟨(tn.2 d0 hd).1, W (i + 1) m, fun H' h => ⟨m, Nat.lt_succ_self _, h⟩, fun y H3 hy => ?_⟩
      obtain ⟨x3, r3, h3⟩ := (tn.2 d0 hd).2 y H3 hy
      rw [← hf] at e5
      dsimp only at e5
      split at e5
      · rename_i env3 ha
        have reW : RepE X.K H3 ρ2 (wipeE env own) (L2.wipe σ own) := (re.mono (xA.trans x3) pA).wipe own
        refine asg_run tg d0 _ env3 _ y _ ha h3 reW fun σ3 re3 sm => ⟨(sm own hown).trans (wipe_sub fun _ h => h), ?_⟩
        obtain ⟨k, S4, e7, e8⟩ := out_bind e5
        refine rT_go r3 re3 e7 fun ρ4 H4 p4 x4 r4 re4 => ?_
        cases k with
        | false =>
          obtain ⟨rfl, rfl⟩ := out_inj e8
          exact ⟨ρ4, S4, p2.trans p4, (x2.trans x3).trans x4, r4, e6⟩
        | true =>
          obtain ⟨y1, S5, e9, e10⟩ := out_bind e8
          obtain ⟨rfl, rfl⟩ := out_inj e10
          refine rE_go r4 re4 e9 fun ρ5 H5 w p5 x5 r5 re5 h5 => ?_
          dsimp only at e6
          split at e6
          · rename_i acc hacc
            split at e6
            · rename_i hl
              have hat5 : ρ5[nn]? = some L := p5 _ _ (p4 _ _ (p2 _ _ hat))
              obtain ⟨vs, hv, hr⟩ := r5.obj nn _ L hacc hat5
              have xw : Ext H5 (upd H5 L (.lst (vs ++ [w]))) := .write hv (fun _ z => nomatch z) fun _ _ z => nomatch z
              refine ⟨vs, hv, by rw [hr.len]; exact hl, ρ5, S5.set nn (.lst (acc ++ [y1])), (p2.trans p4).trans p5, (((x2.trans x3).trans x4).trans x5).trans xw, ?_, e6⟩
              exact r5.set (fun _ z => by rw [hacc] at z; cases z) hat5 hv (fun _ z => nomatch z) (fun _ _ z => nomatch z) ⟨vs ++ [w], upd_same, (hr.mono xw .refl).app (.one (h5.mono xw .refl))⟩
            · cases e6
          · cases e6
      · cases e5
end
end Pd
namespace Pd
open PySem PySem.Spec PyProof.Rows L2
section
variable {G : GC} {T : Tab} {n : Nat} {C : Pd.Cx} {X : L2.Cx} {pos p p1 p2 p3 p4 : Pos}
/-! ### dict displays -/
def trsOf (K : PySem.W.Frag) (C : Pd.Cx) : List Str → List IE → List (TE × TE)
  | k :: ks, a :: as => (tC (.str k), rE K (evE C a)) :: trsOf K C ks as
  | _, _ => []
theorem keyStrs_nil {o : Option Expr} {r : List (Option Expr)} : keyStrs (o :: r) [] = false := by
  cases o with
  | none => rfl
  | some e =>
    cases e with
    | Constant c k q => cases c <;> rfl
    | _ => rfl
theorem keyStrs_len : ∀ {keys : List (Option Expr)} {ks : List Str}, keyStrs keys ks = true → keys.all (·.isSome) = true ∧ ks.length = keys.length
  | [], [], _ => ⟨rfl, rfl⟩
  | [], _ :: _, h => absurd h Bool.false_ne_true
  | o :: r, [], h => by rw [keyStrs_nil] at h; cases h
  | none :: _, _ :: _, h => absurd h Bool.false_ne_true
  | some e :: r, k :: ks, hk => by
    cases e with
    | Constant c a b =>
      cases c with
      | str x =>
        have hk' : (decide (x = k) && keyStrs r ks) = true := hk
        simp only [Bool.and_eq_true, decide_eq_true_eq] at hk'
        obtain ⟨q1, q2⟩ := keyStrs_len hk'.2
        exact ⟨by rw [List.all_cons, q1]; rfl, by rw [List.length_cons, List.length_cons, q2]⟩
      | _ => exact absurd hk Bool.false_ne_true
    | _ => exact absurd hk Bool.false_ne_true
theorem zip_keys : ∀ {ks : List Str} {vs : List V}, (ks.map V.str).zip vs = ((ks.map (Sum.inr : Str → Key)).zip vs).map (fun kv => (kV kv.1, kv.2))
  | [], _ => rfl
  | _ :: _, [] => rfl
  | k :: ks, v :: vs => by rw [List.map_cons, List.map_cons, List.zip_cons_cons, List.zip_cons_cons, List.map_cons, zip_keys]; rfl
theorem zip_fst {α β : Type} : ∀ {ks : List α} {vs : List β}, vs.length = ks.length → (ks.zip vs).map (·.1) = ks
  | [], _, _ => rfl
  | k :: ks, [], h => by cases h
  | k :: ks, v :: vs, h => by rw [List.zip_cons_cons, List.map_cons, zip_fst (Nat.succ.inj h)]
theorem nd_inr : ∀ {ks : List Str}, ks.Nodup → (ks.map (Sum.inr : Str → Key)).Nodup
  | [], _ => List.nodup_nil
  | k :: ks, h => by
    obtain ⟨a, b⟩ := List.nodup_cons.mp h
    refine List.nodup_cons.mpr ⟨fun z => ?_, nd_inr b⟩
    obtain ⟨y, hy, ey⟩ := List.mem_map.mp z
    cases ey
    exact a hy
theorem rep_zip {K : PySem.W.Frag} {H : Hp} {ρ : List Addr} : ∀ {ks : List Str} {ds : List D} {vs : List V}, Reps K H ρ ds vs → ks.length = ds.length → RepK K H ρ (ks.zip ds) ((ks.map (Sum.inr : Str → Key)).zip vs)
  | [], ds, vs, _, _ => by show RepK K H ρ [] []; unfold RepK; rfl
  | k :: ks, [], _, _, hl => by cases hl
  | k :: ks, d :: ds, vs, hr, hl => by
    unfold Reps at hr
    obtain ⟨v, r, rfl, q1, q2⟩ := hr
    show RepK K H ρ ((k, d) :: ks.zip ds) ((Sum.inr k, v) :: (ks.map Sum.inr).zip r)
    unfold RepK
    exact ⟨v, _, rfl, q1, rep_zip q2 (Nat.succ.inj hl)⟩
theorem pps_of : ∀ {keys : List (Option Expr)} {ks : List Str} {as : List IE} {vs : List Expr}, PEs X C as vs → keyStrs keys ks = true → keys.length = vs.length → PPs X pos keys vs (trsOf X.K C ks as)
  | [], [], _, _, h, _, hl => by
    cases h with
    | nil => exact pps_nil
    | cons _ _ _ => cases hl
  | some (.Constant (.str x) _ _) :: r, k :: ks, _, _, h, hk, hl => by
    have hk' : (decide (x = k) && keyStrs r ks) = true := hk
    simp only [Bool.and_eq_true, decide_eq_true_eq] at hk'
    obtain ⟨rfl, h2⟩ := hk'
    cases h with
    | nil => cases hl
    | cons h1 _ h3 => exact pps_cons pe_str h1 (pps_of h3 h2 (Nat.succ.inj hl))
  | [], _ :: _, _, _, _, hk, _ => absurd hk Bool.false_ne_true
  | none :: _, [], _, _, _, hk, _ => absurd hk Bool.false_ne_true
  | none :: _, _ :: _, _, _, _, hk, _ => absurd hk Bool.false_ne_true
  | some e :: _, [], _, _, _, hk, _ => by rw [keyStrs_nil] at hk; cases hk
  | some e :: r, k :: ks, as, vs, h, hk, hl => by
    cases e with
    | Constant c a b =>
      cases c with
      | str x =>
        have hk' : (decide (x = k) && keyStrs r ks) = true := hk
        simp only [Bool.and_eq_true, decide_eq_true_eq] at hk'
        obtain ⟨rfl, h2⟩ := hk'
        cases h with
        | nil => cases hl
        | cons h1 _ h3 => exact pps_cons pe_str h1 (pps_of h3 h2 (Nat.succ.inj hl))
      | _ => exact absurd hk Bool.false_ne_true
    | _ => exact absurd hk Bool.false_ne_true
theorem pairs_run {K : PySem.W.Frag} {σ : L2.St} : ∀ {ks : List Str} {as : List IE} {H : Hp} {ρ : List Addr} {S S' : Sto} {env : Env} {ds : List D} {Q : List (V × V) → Hp → Prop}, RepS K H ρ S → RepE K H ρ env σ → evs C as env S = .ok ds S' → ks.length = as.length →
    (∀ ρ' H' vs, Pre ρ ρ' → Ext H H' → RepS K H' ρ' S' → Reps K H' ρ' ds vs → Q ((ks.map V.str).zip vs) H') → tPairs (trsOf K C ks as) σ H Q
  | [], [], H, ρ, S, S', env, ds, Q, r, re, e, hl, q => by
    obtain ⟨rfl, rfl⟩ := out_inj e
    exact q ρ H [] .refl .refl r .nil
  | k :: ks, a :: as, H, ρ, S, S', env, ds, Q, r, re, e, hl, q => by
    obtain ⟨d, S1, e1, e2⟩ := out_bind e
    obtain ⟨ds1, S2, e3, e4⟩ := out_bind e2
    obtain ⟨rfl, rfl⟩ := out_inj e4
    exact rE_go r re e1 fun ρ1 H1 v p x r1 re1 h1 => pairs_run r1 re1 e3 (Nat.succ.inj hl) fun ρ' H' vs p' x' r' h' => q ρ' H' (v :: vs) (p.trans p') (x.trans x') r' (.cons (h1.mono x' p') h')
  | [], _ :: _, H, ρ, S, S', env, ds, Q, r, re, e, hl, q => by cases hl
  | _ :: _, [], H, ρ, S, S', env, ds, Q, r, re, e, hl, q => by cases hl
theorem put_new {κ : Type} [DecidableEq κ] {kvs : List (κ × V)} {k : κ} {v : V} (h : k ∉ kvs.map (·.1)) : putK kvs k v = kvs ++ [(k, v)] := by
  unfold putK
  rw [if_neg]
  intro q
  obtain ⟨kv, h1, h2⟩ := List.any_eq_true.mp q
  exact h (List.mem_map.mpr ⟨kv, h1, of_decide_eq_true h2⟩)
theorem merge_nd : ∀ (more acc : List (Key × V)), (acc.map (·.1) ++ more.map (·.1)).Nodup → mergeK acc more = acc ++ more
  | [], acc, _ => by unfold mergeK; rw [List.append_nil]; rfl
  | kv :: r, acc, h => by
    have hk : kv.1 ∉ acc.map (·.1) := fun q => by
      rw [List.map_cons, List.nodup_append] at h
      exact h.2.2 _ q _ List.mem_cons_self rfl
    have e : mergeK acc (kv :: r) = mergeK (putK acc kv.1 kv.2) r := rfl
    rw [e, put_new hk, merge_nd r (acc ++ [kv]) (by rw [List.map_append, List.append_assoc]; exact h), List.append_assoc]
    rfl
theorem nd_dic {keys : List (Option Expr)} {vs : List Expr} {ks : List Str} {as : List IE} (h : PEs X C as vs) (hk : keyStrs keys ks = true) (hl : keys.length = vs.length) (h0 : keys ≠ []) (h15 : keys.length ≤ 15) (hnd : ks.Nodup) :
    PE X (.Dict keys vs pos) (rE X.K (evE C (.dic ks as))) := by
  obtain ⟨ha, hkl⟩ := keyStrs_len hk
  have hka : ks.length = as.length := by rw [hkl, hl, h.len]
  refine pe_mono (pe_disp (pps_of h hk hl) ha hl h0 h15) fun σ H Q ⟨ρ, S, env, d, S', r, re, e, g⟩ => ?_
  obtain ⟨ds, S1, e1, e2⟩ := out_bind e
  intro q hq
  have x0 : Ext H (upd H q (.dK [])) := .new hq
  have r0 : RepS X.K (upd H q (.dK [])) (ρ ++ [q]) (S ++ [.dic []]) := r.new hq ⟨[], upd_same, rfl, List.nodup_nil⟩
  have hat : (ρ ++ [q])[S.length]? = some q := by rw [← r.len, List.getElem?_append_right (Nat.le_refl _), Nat.sub_self]; rfl
  refine pairs_run r0 (re.mono x0 .app) e1 hka fun ρ1 H1 vs p x r1 h1 => ?_
  split at e2
  · rename_i hd
    split at e2
    · rename_i hl2
      obtain ⟨rfl, rfl⟩ := out_inj e2
      obtain ⟨ws, hw, hr, _⟩ := r1.obj _ _ q hd (p _ _ hat)
      unfold RepK at hr
      subst hr
      have hv : vs.length = ks.length := by rw [h1.len, hl2]
      refine ⟨hw, (ks.map (Sum.inr : Str → Key)).zip vs, zip_keys, ?_, ?_⟩
      · rw [List.length_zip, List.length_map]
        have := hkl
        omega
      · have xw : Ext H1 (upd H1 q (.dK ((ks.map (Sum.inr : Str → Key)).zip vs))) := .write hw (fun _ z => nomatch z) fun _ _ z => nomatch z
        rw [merge_nd _ [] (by rw [List.map_nil, List.nil_append, zip_fst (by rw [List.length_map]; exact hv)]; exact nd_inr hnd), List.nil_append]
        refine g ρ1 _ _ (Pre.trans .app p) ((x0.trans x).trans xw) (r1.set (fun _ z => by rw [hd] at z; cases z) (p _ _ hat) hw (fun _ z => nomatch z) (fun _ _ z => nomatch z) ⟨_, upd_same, (rep_zip h1 hl2).mono xw .refl, by rw [zip_fst hl2.symm]; exact hnd⟩) ?_
        unfold Rep
        exact ⟨q, p _ _ hat, rfl⟩
    · cases e2
  · cases e2
/-! ### exchanged stores -/
theorem sw_name {x : Str} {e : Expr} {env : PySem.Env} : swappedStores [.Name x p] e env = pure none := rfl
theorem sw_tup1 {ts : List Expr} {k : Nat} {v : Expr} {env : PySem.Env} (h : (match v with | .Tuple .. => false | _ => true) = true) : swappedStores [.Tuple ts k p] v env = pure none := by
  cases v <;> first | rfl | cases h
theorem filter_len {α β : Type} {f : α → Option β} : ∀ {l : List α}, (l.filterMap f).length ≤ l.length ∧ ((l.filterMap f).length = l.length → ∀ x ∈ l, (f x).isSome = true)
  | [] => ⟨Nat.le_refl _, fun _ _ h => by cases h⟩
  | a :: l => by
    obtain ⟨h1, h2⟩ := filter_len (f := f) (l := l)
    cases q : f a with
    | none =>
      rw [List.filterMap_cons_none q]
      refine ⟨by rw [List.length_cons]; omega, fun h => ?_⟩
      rw [List.length_cons] at h
      omega
    | some b =>
      rw [List.filterMap_cons_some q]
      refine ⟨by rw [List.length_cons, List.length_cons]; omega, fun h x hx => ?_⟩
      rw [List.length_cons, List.length_cons] at h
      rcases List.mem_cons.mp hx with rfl | hx
      · rw [q]; rfl
      · exact h2 (by omega) x hx
theorem sw_none {ts vs : List Expr} {k k2 : Nat} {env : PySem.Env} (h : noParB env.scope ts vs = true) : swappedStores [.Tuple ts k p] (.Tuple vs k2 p2) env = pure none := by
  unfold swappedStores
  dsimp only
  split
  · rfl
  · rename_i h1
    split
    · rfl
    · split
      · rfl
      · rename_i h3
        split
        · rfl
        · rename_i h4
          exfalso
          unfold noParB at h
          simp only [Bool.or_eq_true, Bool.not_eq_true', Bool.or_eq_false_iff, decide_eq_false_iff_not, bne_iff_ne, ne_eq, beq_iff_eq, not_or, Bool.not_eq_true, Decidable.not_not] at h h1 h3
          rcases h with ((h | h) | h) | h
          · simp at h1
            omega
          · simp at h1
            omega
          · have hall := (filter_len (l := ts)).2 h3.1
            have : (ts.all fun e => match e with | .Name x _ => decide (env.scope.names.lookup x = some .local) | _ => false) = true := by
              rw [List.all_eq_true]
              intro e he
              have := hall e he
              cases e with
              | Name x q =>
                dsimp only at this
                split at this
                · rename_i hc
                  have hc' : (env.kindOf x == some .local) = true := (Bool.and_eq_true_iff.mp hc).1
                  exact decide_eq_true (eq_of_beq hc')
                · cases this
              | _ => cases this
            exact Bool.false_ne_true (h.symm.trans this)
          · exact h4 h
theorem any_star : ∀ {a : Expr}, notStar a = true → (match a with | .Starred .. => true | _ => false) = false := fun {a} => by cases a <;> first | (intro _; rfl) | (intro h; cases h)
theorem par_two {x y : Str} {px py : Pos} {a b : Expr} {k k2 : Nat} {env : PySem.Env} (hk : env.scope.kind = .function) (h : parB env.scope [.Name x px, .Name y py] [a, b] = true) :
    env.scope.names.lookup x = some .local ∧ env.scope.names.lookup y = some .local ∧ x ≠ y ∧ swappedStores [.Tuple [.Name x px, .Name y py] k p] (.Tuple [a, b] k2 p2) env = pure (some [x, y]) := by
  unfold parB at h
  simp only [Bool.and_eq_true, Bool.not_eq_true', List.all_cons, List.all_nil, Bool.and_true, decide_eq_true_eq, linesB, List.filterMap_cons, List.filterMap_nil, nmS, List.head?_cons, Option.map_some, Option.getD_some] at h
  obtain ⟨⟨⟨⟨⟨⟨⟨h1, h2⟩, h3, h4⟩, h5⟩, h6⟩, h7⟩, h8⟩, h9⟩ := h
  have h5 : py.line = px.line := of_decide_eq_true h5.2
  have h6 : x ≠ y := by have := of_decide_eq_true h6; intro e; subst e; simp at this
  have hb : env.blockKind = .function := by unfold PySem.Env.blockKind; rw [hk]; rfl
  have kx : env.kindOf x = some .local := h3
  have ky : env.kindOf y = some .local := h4
  refine ⟨h3, h4, h6, ?_⟩
  unfold swappedStores
  simp only [hb, kx, ky, any_star h7.1, any_star h7.2, List.any_cons, List.any_nil, List.all_cons, List.all_nil, Bool.and_true, h8, h9, List.filterMap_cons, List.filterMap_nil, List.head?_cons, Option.map_some, Option.getD_some, Expr.pos, h5, beq_self_eq_true, Bool.true_and, if_true, List.length_cons, List.length_nil]
  have hed : [x, y].eraseDups = [x, y] := by
    have : (y == x) = false := by rw [beq_eq_false_iff_ne]; exact Ne.symm h6
    simp [List.eraseDups_cons, List.filter_cons, this]
  rw [hed, if_neg (by decide), if_neg (fun hh => ?_)]
  · rfl
  · rw [Bool.or_eq_true, Bool.or_eq_true] at hh
    rcases hh with hh | hh | hh
    · exact Bool.false_ne_true ((any_star h7.1).symm.trans hh)
    · exact Bool.false_ne_true ((any_star h7.2).symm.trans hh)
    · cases hh
theorem par_three {x y z : Str} {px py pz : Pos} {a b c : Expr} {k k2 : Nat} {env : PySem.Env} (hk : env.scope.kind = .function) (h : parB env.scope [.Name x px, .Name y py, .Name z pz] [a, b, c] = true) :
    env.scope.names.lookup x = some .local ∧ env.scope.names.lookup y = some .local ∧ env.scope.names.lookup z = some .local ∧ x ≠ y ∧ x ≠ z ∧ y ≠ z ∧ swappedStores [.Tuple [.Name x px, .Name y py, .Name z pz] k p] (.Tuple [a, b, c] k2 p2) env = pure (some [x, y, z]) := by
  unfold parB at h
  simp only [Bool.and_eq_true, Bool.not_eq_true', List.all_cons, List.all_nil, Bool.and_true, decide_eq_true_eq, linesB, List.filterMap_cons, List.filterMap_nil, nmS, List.head?_cons, Option.map_some, Option.getD_some] at h
  obtain ⟨⟨⟨⟨⟨⟨⟨h1, h2⟩, h3, h4, h0⟩, h5⟩, h6⟩, h7⟩, h8⟩, h9⟩ := h
  have h51 : py.line = px.line := of_decide_eq_true h5.2.1
  have h52 : pz.line = px.line := of_decide_eq_true h5.2.2
  have hnd := of_decide_eq_true h6
  have n1 : x ≠ y := by intro e; subst e; simp at hnd
  have n2 : x ≠ z := by intro e; subst e; simp at hnd
  have n3 : y ≠ z := by intro e; subst e; simp at hnd
  have hb : env.blockKind = .function := by unfold PySem.Env.blockKind; rw [hk]; rfl
  have kx : env.kindOf x = some .local := h3
  have ky : env.kindOf y = some .local := h4
  have kz : env.kindOf z = some .local := h0
  refine ⟨h3, h4, h0, n1, n2, n3, ?_⟩
  unfold swappedStores
  simp only [hb, kx, ky, kz, any_star h7.1, any_star h7.2.1, any_star h7.2.2, List.any_cons, List.any_nil, List.all_cons, List.all_nil, Bool.and_true, h8, h9, List.filterMap_cons, List.filterMap_nil, List.head?_cons, Option.map_some, Option.getD_some, Expr.pos, h51, h52, beq_self_eq_true, Bool.true_and, if_true, List.length_cons, List.length_nil]
  have hed : [x, y, z].eraseDups = [x, y, z] := by
    have e1 : (y == x) = false := by rw [beq_eq_false_iff_ne]; exact Ne.symm n1
    have e2 : (z == x) = false := by rw [beq_eq_false_iff_ne]; exact Ne.symm n2
    have e3 : (z == y) = false := by rw [beq_eq_false_iff_ne]; exact Ne.symm n3
    simp [List.eraseDups_cons, List.filter_cons, e1, e2, e3]
  rw [hed, if_neg (by decide), if_neg (fun hh => ?_)]
  · rfl
  · rw [Bool.or_eq_true, Bool.or_eq_true, Bool.or_eq_true] at hh
    rcases hh with hh | hh | hh | hh
    · exact Bool.false_ne_true ((any_star h7.1).symm.trans hh)
    · exact Bool.false_ne_true ((any_star h7.2.1).symm.trans hh)
    · exact Bool.false_ne_true ((any_star h7.2.2).symm.trans hh)
    · cases hh
theorem loc_slot {N : List Str} {sc : Scope} {i : Nat} {x : Str} (h : mtTg N sc (fun _ => true) (.nm i) (.Name x p) = true) : N[i]? = some x := by
  have h' : (decide (N[i]? = some x) && _) = true := h
  exact of_decide_eq_true (Bool.and_eq_true_iff.mp h').1
theorem ne_slot {N : List Str} {i j : Nat} {x y : Str} (hi : N[i]? = some x) (hj : N[j]? = some y) (h : x ≠ y) : i ≠ j := fun e => by
  subst e
  rw [hi] at hj
  exact h (Option.some.inj hj)
theorem puts_cons {σ σ' : Env} {i : Nat} {is : List Nat} {d : D} {ds : List D} (h : puts σ (i :: is) (d :: ds) = some σ') : ∃ σ1, put σ i d = some σ1 ∧ puts σ1 is ds = some σ' := by
  unfold puts at h
  split at h
  · exact ⟨_, ‹_›, h⟩
  · cases h
theorem puts_len {is : List Nat} : ∀ {σ σ' : Env} {ds : List D}, puts σ is ds = some σ' → ds.length = is.length := by
  induction is with
  | nil => intro σ σ' ds h; cases ds with
    | nil => rfl
    | cons _ _ => cases h
  | cons i is ih =>
    intro σ σ' ds h
    cases ds with
    | nil => cases h
    | cons d ds =>
      obtain ⟨σ1, _, h2⟩ := puts_cons h
      rw [List.length_cons, List.length_cons, ih h2]
theorem ns_par {is : List Nat} {as : List IE} {ts vs : List Expr} {k k2 : Nat} (hk : X.env.scope.kind = .function) (hc : X.calm = true) (hN : X.N.Nodup) (h : PEs X C as vs) (hp : parB X.env.scope ts vs = true) (ht : mtTgs X.N X.env.scope (fun _ => true) (is.map .nm) ts = true) :
    PS X (.Assign [.Tuple ts k p] (.Tuple vs k2 p2) pos) (rS X.K (evS C (.par is as))) := by
  have hl : (ts.length = 2 ∨ ts.length = 3) ∧ vs.length = ts.length ∧ ∀ t ∈ ts, ∃ x q, t = .Name x q := by
    unfold parB at hp
    simp only [Bool.and_eq_true, Bool.or_eq_true, decide_eq_true_eq, List.all_eq_true] at hp
    obtain ⟨⟨⟨⟨⟨⟨⟨h1, h2⟩, h3⟩, h5⟩, h6⟩, h7⟩, h8⟩, h9⟩ := hp
    refine ⟨h1, h2, fun t ht => ?_⟩
    have := h3 t ht
    cases t with
    | Name x q => exact ⟨x, q, rfl⟩
    | _ => cases this
  obtain ⟨hl1, hl2, hl3⟩ := hl
  have his : is.length = ts.length := by have := (mtTgs_len ht).2; rw [List.length_map] at this; exact this
  match is, ts, vs, hl1, hl2, hl3, his with
  | [i, j], [t1, t2], [a, b], _, _, hn, _ =>
    obtain ⟨x, q1, rfl⟩ := hn t1 (by simp)
    obtain ⟨y, q2, rfl⟩ := hn t2 (by simp)
    obtain ⟨l1, l2, l3, l4⟩ := par_two (p := p) (p2 := p2) (k := k) (k2 := k2) hk hp
    have ht' : (notStar (.Name x q1) && mtTg X.N X.env.scope (fun _ => true) (.nm i) (.Name x q1) && (notStar (.Name y q2) && mtTg X.N X.env.scope (fun _ => true) (.nm j) (.Name y q2) && true)) = true := ht
    simp only [Bool.and_eq_true] at ht'
    have hi := loc_slot ht'.1.2
    have hj := loc_slot ht'.2.1.2
    refine ps_mono (ps_par hc hN hi hj (ne_slot hi hj l3) l1 l2 h.pa l4 rfl) fun D σ H ⟨ρ, S, env, fl, S', r, re, e, g⟩ => ?_
    obtain ⟨ds, S1, e1, e2⟩ := out_bind e
    refine rA_go r re e1 fun ρ1 H1 vs p x r1 re1 h1 => ?_
    split at e2
    · rename_i env1 he
      obtain ⟨rfl, rfl⟩ := out_inj e2
      have hd := puts_len he
      match ds, hd with
      | [d1, d2], _ =>
        obtain ⟨v1, v2, rfl, h2, h3⟩ := reps2 h1
        obtain ⟨σ1, w1, w2⟩ := puts_cons he
        obtain ⟨σ2, w3, w4⟩ := puts_cons w2
        obtain rfl : σ2 = env1 := by unfold puts at w4; exact Option.some.inj w4
        exact ⟨v1, v2, rfl, (g.later p x).now r1 _ ((re1.put w1 h2).put w3 h3)⟩
    · cases e2
  | [i, j, l], [t1, t2, t3], [a, b, c], _, _, hn, _ =>
    obtain ⟨x, q1, rfl⟩ := hn t1 (by simp)
    obtain ⟨y, q2, rfl⟩ := hn t2 (by simp)
    obtain ⟨z, q3, rfl⟩ := hn t3 (by simp)
    obtain ⟨l1, l2, l0, l3, l5, l6, l4⟩ := par_three (p := p) (p2 := p2) (k := k) (k2 := k2) hk hp
    have ht' : (notStar (.Name x q1) && mtTg X.N X.env.scope (fun _ => true) (.nm i) (.Name x q1) && (notStar (.Name y q2) && mtTg X.N X.env.scope (fun _ => true) (.nm j) (.Name y q2) && (notStar (.Name z q3) && mtTg X.N X.env.scope (fun _ => true) (.nm l) (.Name z q3) && true))) = true := ht
    simp only [Bool.and_eq_true] at ht'
    have hi := loc_slot ht'.1.2
    have hj := loc_slot ht'.2.1.2
    have hll := loc_slot ht'.2.2.1.2
    refine ps_mono (ps_par3 hc hN hi hj hll (ne_slot hi hj l3) (ne_slot hi hll l5) (ne_slot hj hll l6) l1 l2 l0 h.pa l4 rfl) fun D σ H ⟨ρ, S, env, fl, S', r, re, e, g⟩ => ?_
    obtain ⟨ds, S1, e1, e2⟩ := out_bind e
    refine rA_go r re e1 fun ρ1 H1 vs p x r1 re1 h1 => ?_
    split at e2
    · rename_i env1 he
      obtain ⟨rfl, rfl⟩ := out_inj e2
      have hd := puts_len he
      match ds, hd with
      | [d1, d2, d3], _ =>
        unfold Reps at h1
        obtain ⟨v1, vr, rfl, h2, h1⟩ := h1
        obtain ⟨v2, v3, rfl, h3, h4⟩ := reps2 h1
        obtain ⟨σ1, w1, w2⟩ := puts_cons he
        obtain ⟨σ2, w3, w4⟩ := puts_cons w2
        obtain ⟨σ3, w5, w6⟩ := puts_cons w4
        obtain rfl : σ3 = env1 := by unfold puts at w6; exact Option.some.inj w6
        exact ⟨v1, v2, v3, rfl, (g.later p x).now r1 _ (((re1.put w1 h2).put w3 h3).put w5 h4)⟩
    · cases e2
  | [], [], _, h, _, _, _ => exact absurd h (by simp)
  | [_], [_], _, h, _, _, _ => exact absurd h (by simp)
  | _ :: _ :: _ :: _ :: _, ts, _, h, _, _, h2 => exact absurd h (by rw [← h2]; simp)
  | [_, _], [_, _], [], _, h, _, _ => cases h
  | [_, _], [_, _], [_], _, h, _, _ => cases h
  | [_, _], [_, _], _ :: _ :: _ :: _, _, h, _, _ => exact absurd h (by simp)
  | [_, _, _], [_, _, _], [], _, h, _, _ => cases h
  | [_, _, _], [_, _, _], [_], _, h, _, _ => cases h
  | [_, _, _], [_, _, _], [_, _], _, h, _, _ => cases h
  | [_, _, _], [_, _, _], _ :: _ :: _ :: _ :: _, _, h, _, _ => exact absurd h (by simp)
end
end Pd
namespace Pd
open PySem PySem.Spec PyProof.Rows L2
section
variable {G : GC} {T : Tab} {n : Nat} {C : Pd.Cx} {X : L2.Cx} {pos p p1 p2 p3 p4 : Pos}
inductive PTLs (X : L2.Cx) (C : Pd.Cx) : List IT → List Expr → Prop
  | nil : PTLs X C [] []
  | cons {a : IT} {e : Expr} {as : List IT} {es : List Expr} (h : PT X e (rT X.K (evT C a))) (r : PTLs X C as es) : PTLs X C (a :: as) (e :: es)
theorem and_of {as : List IE} {es : List Expr} (h : PEs X C as es) : PE X (.BoolOp .And es pos) (rE X.K (evAnd C as)) := by
  induction h with
  | nil => exact ⟨fun pins s σ H Q I ⟨ρ, S, env, d, S', r, re, e, g⟩ => (no_bad e).elim⟩
  | cons h s r ih =>
    cases r with
    | nil => exact nd_and1 h
    | cons h2 s2 r2 => exact nd_and2 h ih
theorem or_of {as : List IE} {es : List Expr} (h : PEs X C as es) : PE X (.BoolOp .Or es pos) (rE X.K (evOr C as)) := by
  induction h with
  | nil => exact ⟨fun pins s σ H Q I ⟨ρ, S, env, d, S', r, re, e, g⟩ => (no_bad e).elim⟩
  | cons h s r ih =>
    cases r with
    | nil => exact nd_or1 h
    | cons h2 s2 r2 => exact nd_or2 h ih
theorem tand_of {as : List IT} {es : List Expr} (h : PTLs X C as es) : PW X (.BoolOp .And es pos) (rT X.K (evAndT C as)) := by
  induction h with
  | nil => exact ⟨fun wh pins s σ H Q I ⟨ρ, S, env, d, S', r, re, e, g⟩ => (no_bad e).elim⟩
  | cons h r ih =>
    cases r with
    | nil => exact nw_and1 h
    | cons h2 r2 => exact nw_and2 h ih
theorem tor_of {as : List IT} {es : List Expr} (h : PTLs X C as es) : PW X (.BoolOp .Or es pos) (rT X.K (evOrT C as)) := by
  induction h with
  | nil => exact ⟨fun wh pins s σ H Q I ⟨ρ, S, env, d, S', r, re, e, g⟩ => (no_bad e).elim⟩
  | cons h r ih =>
    cases r with
    | nil => exact nw_or1 h
    | cons h2 r2 => exact nw_or2 h ih
theorem ite_some {α : Type} {c : Bool} {x y : α} (h : (if c = true then some x else none) = some y) : c = true ∧ x = y := by
  split at h
  · exact ⟨‹_›, Option.some.inj h⟩
  · cases h
theorem pes_len1 {as : List IE} {vs : List Expr} (h : vs.length = 1) (q : PEs X C as vs) : ∃ e, vs = [e] := by
  match vs, h with
  | [e], _ => exact ⟨e, rfl⟩
theorem len2 {vs : List Expr} (h : vs.length = 2) : ∃ e f, vs = [e, f] := by
  match vs, h with
  | [e, f], _ => exact ⟨e, f, rfl⟩
theorem len1 {vs : List Expr} (h : vs.length = 1) : ∃ e, vs = [e] := by
  match vs, h with
  | [e], _ => exact ⟨e, rfl⟩
theorem src_of (O : Ok G T n C X) {k : SK} {tgt iter : Expr} {vs : List Expr} {as : List IE} (h : srcOf G X.env.scope k tgt iter = some vs) (q : PEs X C as vs) : PI X tgt iter (iSrc X.K C k as) ∧ ∀ x, foldedSetIterable iter X.env x = pure x := by
  cases k with
  | seq =>
    obtain ⟨h1, rfl⟩ := ite_some (show (if notSet iter = true then some [iter] else none) = some vs from h)
    cases q with
    | cons q1 q2 q3 =>
      cases q3
      refine ⟨src_seq q1, fun x => ?_⟩
      cases iter <;> first | rfl | cases h1
  | range =>
    cases iter with
    | Call fe args kws cp =>
      cases fe with
      | Name f fp =>
        cases kws with
        | nil =>
          obtain ⟨h1, rfl⟩ := ite_some (show (if (decide (f = sOf (skN .range)) && freeB G X.env.scope f && (decide (args.length = 1) || decide (args.length = 2))) = true then some args else none) = some vs from h)
          simp only [Bool.and_eq_true, Bool.or_eq_true, decide_eq_true_eq] at h1
          refine ⟨?_, fun _ => rfl⟩
          rcases h1.2 with l | l
          · obtain ⟨e, rfl⟩ := len1 l
            exact src_rng1 O h1.1.1 h1.1.2 q
          · obtain ⟨e, e2, rfl⟩ := len2 l
            exact src_rng2 O h1.1.1 h1.1.2 q
        | cons _ _ => cases h
      | _ => cases h
    | _ => cases h
  | enum =>
    cases iter with
    | Call fe args kws cp =>
      cases fe with
      | Name f fp =>
        cases kws with
        | nil =>
          obtain ⟨h1, rfl⟩ := ite_some (show (if (decide (f = sOf (skN .enum)) && freeB G X.env.scope f && (isTupE tgt && decide (args.length = 1))) = true then some args else none) = some vs from h)
          simp only [Bool.and_eq_true, Bool.or_eq_true, decide_eq_true_eq] at h1
          refine ⟨?_, fun _ => rfl⟩
          obtain ⟨e, rfl⟩ := len1 h1.2.2
          have ht := h1.2.1
          cases tgt with
          | Tuple ts k tp => exact src_enum O h1.1.1 h1.1.2 q
          | _ => cases ht
        | cons _ _ => cases h
      | _ => cases h
    | _ => cases h
  | zip =>
    cases iter with
    | Call fe args kws cp =>
      cases fe with
      | Name f fp =>
        cases kws with
        | nil =>
          obtain ⟨h1, rfl⟩ := ite_some (show (if (decide (f = sOf (skN .zip)) && freeB G X.env.scope f && (isTupE tgt && decide (args.length = 2))) = true then some args else none) = some vs from h)
          simp only [Bool.and_eq_true, Bool.or_eq_true, decide_eq_true_eq] at h1
          refine ⟨?_, fun _ => rfl⟩
          obtain ⟨e, e2, rfl⟩ := len2 h1.2.2
          have ht := h1.2.1
          cases tgt with
          | Tuple ts k tp => exact src_zip O h1.1.1 h1.1.2 q
          | _ => cases ht
        | cons _ _ => cases h
      | _ => cases h
    | _ => cases h
  | rev =>
    cases iter with
    | Call fe args kws cp =>
      cases fe with
      | Name f fp =>
        cases kws with
        | nil =>
          obtain ⟨h1, rfl⟩ := ite_some (show (if (decide (f = sOf (skN .rev)) && freeB G X.env.scope f && decide (args.length = 1)) = true then some args else none) = some vs from h)
          simp only [Bool.and_eq_true, Bool.or_eq_true, decide_eq_true_eq] at h1
          refine ⟨?_, fun _ => rfl⟩
          obtain ⟨e, rfl⟩ := len1 h1.2
          exact src_rev O h1.1.1 h1.1.2 q
        | cons _ _ => cases h
      | _ => cases h
    | _ => cases h
theorem Ok.blk (O : Ok G T n C X) (s : Shared) (H : Hp) (scope : Scope) (ce : PySem.Env) (fp : List Addr) : Ok G T n C (X.blk s H scope ce fp) :=
  ⟨O.cal, O.glo, O.np, fun f nm ps h => ⟨(O.fn f nm ps h).np, (O.fn f nm ps h).at_⟩, O.gl, O.free, O.gcd, O.room, O.guards, O.calm, O.nd, rfl⟩
theorem own_map {N : List Str} {own : List Nat} : (ownOf N own).map (·.2) = own := by
  unfold ownOf
  rw [List.map_map]
  exact List.map_id' own
/-- what a comprehension asks -/
structure LcOk (X : L2.Cx) (C : Pd.Cx) (own : List Nat) (tg : Tg) (k : SK) (es : List IE) (cs : List IT) (a : IE) (elt tgt iter : Expr) (ifs : List Expr) (scope : Scope) : Prop where
  hi : PI X tgt iter (iSrc X.K C k es)
  ok : BlkOk X.N X.env.scope scope (ownOf X.N own)
  hg : ∀ (s : Shared) (H : Hp) (Ca : Addr) (cl : List (Str × Addr)) (fp : List Addr), PG (X.blk s H scope (compEnvC scope cl Ca X.env) fp) tgt (gOf X.K tg)
  ht : ∀ (s : Shared) (H : Hp) (Ca : Addr) (cl : List (Str × Addr)) (fp : List Addr), PTs (X.blk s H scope (compEnvC scope cl Ca X.env) fp) ifs (rT X.K (evC C cs))
  he : ∀ (s : Shared) (H : Hp) (Ca : Addr) (cl : List (Str × Addr)) (fp : List Addr), PE (X.blk s H scope (compEnvC scope cl Ca X.env) fp) elt (rE X.K (evE C a))
  hs : ∀ x, foldedSetIterable iter X.env x = pure x
  ow : ∀ i ∈ slots tg, i ∈ own
theorem LcOk.pe {own : List Nat} {tg : Tg} {k : SK} {es : List IE} {cs : List IT} {a : IE} {elt tgt iter : Expr} {ifs : List Expr} {scope : Scope} (O : Ok G T n C X) (L : LcOk X C own tg k es cs a elt tgt iter ifs scope) :
    PE X (.ListComp elt [⟨tgt, iter, ifs, 0⟩] scope pos) (rE X.K (evE C (.lc own tg k es cs a))) := by
  have h := pe_lc (pos := pos) O.calm O.nd L.hi L.ok L.hg L.ht L.he L.hs
  rw [own_map] at h
  exact pe_mono h fun σ H Q q => lc_read L.ow q
theorem nts_nil : PTs X [] (rT X.K (evC C [])) := by
  refine ⟨fun pins s σ H Q I ⟨ρ, S, env, d, S', r, re, e, g⟩ => pts_nil.run pins s σ H Q I ?_⟩
  obtain ⟨rfl, rfl⟩ := out_inj e
  exact g ρ H .refl .refl r
theorem nts_one {t : IT} {c : Expr} (h : PT X c (rT X.K (evT C t))) : PTs X [c] (rT X.K (evC C [t])) := by
  refine ⟨fun pins s σ H Q I ⟨ρ, S, env, d, S', r, re, e, g⟩ => (pts_one h).run pins s σ H Q I ?_⟩
  obtain ⟨k, S1, e1, e2⟩ := out_bind e
  refine rT_go r re e1 fun ρ1 H1 p1 x1 r1 re1 => ?_
  cases k with
  | true =>
    obtain ⟨rfl, rfl⟩ := out_inj e2
    exact g ρ1 H1 p1 x1 r1
  | false =>
    obtain ⟨rfl, rfl⟩ := out_inj e2
    exact g ρ1 H1 p1 x1 r1
theorem back_ok {y : Expr} (h : backB y = true) : ∃ k p1 p2 p3, y = .Slice none none (some (.UnaryOp .USub (.Constant (.int 1) k p1) p2)) p3 := by
  unfold backB at h
  split at h
  · obtain rfl := of_decide_eq_true h
    exact ⟨_, _, _, _, rfl⟩
  · cases h
theorem and2 {a b : Bool} (h : (a && b) = true) : a = true ∧ b = true := Bool.and_eq_true_iff.mp h
theorem dec_t {q : Prop} [Decidable q] (h : decide q = true) : q := of_decide_eq_true h
theorem not_t {a : Bool} (h : (!a) = true) : a = false := by cases a with | false => rfl | true => cases h
end
theorem lc_inv {G : GC} {N : List Str} {sc : Scope} {own : List Nat} {tg : Tg} {k : SK} {es : List IE} {cs : List IT} {a : IE} (e : Expr) (h : mtE G N sc (.lc own tg k es cs a) e = true) :
    ∃ elt tgt iter ifs scope pos vs, e = .ListComp elt [⟨tgt, iter, ifs, 0⟩] scope pos ∧ srcOf G sc k tgt iter = some vs ∧ mtL G N sc es vs = true ∧ mtTs G N (L2.relS scope sc) cs ifs = true ∧ mtE G N (L2.relS scope sc) a elt = true ∧
      L2.BlkOk N sc scope (ownOf N own) ∧ mtTg N (L2.relS scope sc) (fun x => scope.names.lookup x == some .cell) tg tgt = true ∧ ∀ i ∈ slots tg, i ∈ own := by
  cases e with
  | ListComp elt gens scope pos =>
    match gens, h with
    | [], h => exact absurd h Bool.false_ne_true
    | ⟨_, _, _, _⟩ :: _ :: _, h => exact absurd h Bool.false_ne_true
    | [⟨tgt, iter, ifs, z⟩], h =>
      obtain ⟨h1, h7⟩ := and2 (show (decide (z = 0) && L2.blkC N sc scope (ownOf N own) && mtTg N (L2.relS scope sc) (fun x => scope.names.lookup x == some .cell) tg tgt && (slots tg).all (fun i => decide (i ∈ own)) &&
      (match srcOf G sc k tgt iter with
      | some vs => mtL G N sc es vs
      | none => false) && mtTs G N (L2.relS scope sc) cs ifs && mtE G N (L2.relS scope sc) a elt) = true from h)
      obtain ⟨h1, h6⟩ := and2 h1
      obtain ⟨h1, h5⟩ := and2 h1
      obtain ⟨h1, h4⟩ := and2 h1
      obtain ⟨h1, h3⟩ := and2 h1
      obtain ⟨h1, h2⟩ := and2 h1
      obtain rfl := dec_t h1
      split at h5
      · rename_i vs hv
        exact ⟨elt, tgt, iter, ifs, scope, pos, vs, rfl, hv, h5, h6, h7, L2.blkOk_by h2, h3, fun i hi => dec_t (List.all_eq_true.mp h4 i hi)⟩
      · cases h5
  | _ => exact absurd h Bool.false_ne_true
section
variable {G : GC} {T : Tab} {n : Nat} {C : Pd.Cx}
mutual
theorem sE : ∀ (a : IE) (X : L2.Cx) (e : Expr), Ok G T n C X → mtE G X.N X.env.scope a e = true → PE X e (rE X.K (evE C a))
  | .slot i, X, e, O, h => by
    cases e with
    | Name x p =>
      obtain ⟨h1, h4⟩ := and2 (show (decide (X.N[i]? = some x) && visB X.env.scope x && dbg x && !(x == ("__classdict__" : Str))) = true from h)
      obtain ⟨h1, h3⟩ := and2 h1
      obtain ⟨h1, h2⟩ := and2 h1
      exact nd_slot (dec_t h1) h2 h3 (not_t h4)
    | _ => exact absurd h Bool.false_ne_true
  | .cst d, X, e, O, h => by
    cases e with
    | Constant c j p =>
      cases d with
      | int i =>
        cases c with
        | int j => obtain rfl := dec_t (show decide (i = j) = true from h); exact nd_cst pe_int fun _ _ => rep_int'
        | _ => exact absurd h Bool.false_ne_true
      | bl i =>
        cases c with
        | bool j => obtain rfl := dec_t (show decide (i = j) = true from h); exact nd_cst pe_bl fun _ _ => rep_bl'
        | _ => exact absurd h Bool.false_ne_true
      | str i =>
        cases c with
        | str j => obtain rfl := dec_t (show decide (i = j) = true from h); exact nd_cst pe_str fun _ _ => rep_str'
        | _ => exact absurd h Bool.false_ne_true
      | non =>
        cases c with
        | none => exact nd_cst pe_non fun _ _ => rep_non'
        | _ => exact absurd h Bool.false_ne_true
      | tup _ => exact absurd h Bool.false_ne_true
      | ref _ => exact absurd h Bool.false_ne_true
    | _ => cases d <;> exact absurd h Bool.false_ne_true
  | .glo i, X, e, O, h => by
    cases e with
    | Name x p =>
      obtain ⟨h1, h3⟩ := and2 (show (decide (G.glo[i]? = some x) && glB X.env.scope x && dbg x) = true from h)
      obtain ⟨h1, h2⟩ := and2 h1
      exact nd_glo O (dec_t h1) h2 h3
    | _ => exact absurd h Bool.false_ne_true
  | .tup es, X, e, O, h => by
    cases e with
    | Tuple vs k p => exact nd_tup (sL es X vs O h).pa
    | _ => exact absurd h Bool.false_ne_true
  | .lst es, X, e, O, h => by
    cases e with
    | List vs p => exact nd_lst (sL es X vs O h).pa
    | _ => exact absurd h Bool.false_ne_true
  | .dic ks es, X, e, O, h => by
    cases e with
    | Dict keys vs p =>
      obtain ⟨h1, h6⟩ := and2 (show (keyStrs keys ks && decide (keys.length = vs.length) && !keys.isEmpty && decide (keys.length ≤ 15) && decide ks.Nodup && mtL G X.N X.env.scope es vs) = true from h)
      obtain ⟨h1, h5⟩ := and2 h1
      obtain ⟨h1, h4⟩ := and2 h1
      obtain ⟨h1, h3⟩ := and2 h1
      obtain ⟨h1, h2⟩ := and2 h1
      exact nd_dic (sL es X vs O h6) h1 (dec_t h2) (fun z => by rw [z] at h3; cases h3) (dec_t h4) (dec_t h5)
    | _ => exact absurd h Bool.false_ne_true
  | .bin op a b, X, e, O, h => by
    cases e with
    | BinOp l o r p =>
      obtain ⟨h1, h3⟩ := and2 (show (decide (o = opOf op) && mtE G X.N X.env.scope a l && mtE G X.N X.env.scope b r) = true from h)
      obtain ⟨h1, h2⟩ := and2 h1
      obtain rfl := dec_t h1
      exact nd_bin (sE a X l O h2) (sE b X r O h3)
    | _ => exact absurd h Bool.false_ne_true
  | .neg a, X, e, O, h => by
    cases e with
    | UnaryOp o x p =>
      cases o with
      | USub => exact nd_neg (sE a X x O h)
      | _ => exact absurd h Bool.false_ne_true
    | _ => exact absurd h Bool.false_ne_true
  | .not a, X, e, O, h => by
    cases e with
    | UnaryOp o x p =>
      cases o with
      | Not => exact nd_not (sE a X x O h)
      | _ => exact absurd h Bool.false_ne_true
    | _ => exact absurd h Bool.false_ne_true
  | .and es, X, e, O, h => by
    cases e with
    | BoolOp o vs p =>
      cases o with
      | And => exact and_of (sL es X vs O h)
      | _ => exact absurd h Bool.false_ne_true
    | _ => exact absurd h Bool.false_ne_true
  | .or es, X, e, O, h => by
    cases e with
    | BoolOp o vs p =>
      cases o with
      | Or => exact or_of (sL es X vs O h)
      | _ => exact absurd h Bool.false_ne_true
    | _ => exact absurd h Bool.false_ne_true
  | .cmp op a b, X, e, O, h => by
    cases e with
    | Compare l os rs p =>
      match os, rs, h with
      | [o], [r], h =>
        obtain ⟨h1, h4⟩ := and2 (show (decide (o = cmpOf op) && !behindInMarks o r && mtE G X.N X.env.scope a l && mtE G X.N X.env.scope b r) = true from h)
        obtain ⟨h1, h3⟩ := and2 h1
        obtain ⟨h1, h2⟩ := and2 h1
        obtain rfl := dec_t h1
        exact nd_cmp O.room.units (sE a X l O h3) (sE b X r O h4) (not_t h2)
      | [], _, h => exact absurd h Bool.false_ne_true
      | [_], [], h => exact absurd h Bool.false_ne_true
      | [_], _ :: _ :: _, h => exact absurd h Bool.false_ne_true
      | _ :: _ :: _, _, h => exact absurd h Bool.false_ne_true
    | _ => exact absurd h Bool.false_ne_true
  | .chain op op' a b c, X, e, O, h => by
    cases e with
    | Compare l os rs p =>
      match os, rs, h with
      | [o, o'], [m, r], h =>
        obtain ⟨h1, h6⟩ := and2 (show (decide (o = cmpOf op) && decide (o' = cmpOf op') && !behindInMarks o' r && mtE G X.N X.env.scope a l && mtE G X.N X.env.scope b m && mtE G X.N X.env.scope c r) = true from h)
        obtain ⟨h1, h5⟩ := and2 h1
        obtain ⟨h1, h4⟩ := and2 h1
        obtain ⟨h1, h3⟩ := and2 h1
        obtain ⟨h1, h2⟩ := and2 h1
        obtain rfl := dec_t h1
        obtain rfl := dec_t h2
        exact nd_chain O.room.units (sE a X l O h4) (sE b X m O h5) (sE c X r O h6) (not_t h3)
      | [], _, h => exact absurd h Bool.false_ne_true
      | [_], _, h => exact absurd h Bool.false_ne_true
      | [_, _], [], h => exact absurd h Bool.false_ne_true
      | [_, _], [_], h => exact absurd h Bool.false_ne_true
      | [_, _], _ :: _ :: _ :: _, h => exact absurd h Bool.false_ne_true
      | _ :: _ :: _ :: _, _, h => exact absurd h Bool.false_ne_true
    | _ => exact absurd h Bool.false_ne_true
  | .ifx t a b, X, e, O, h => by
    cases e with
    | IfExp c x y p =>
      obtain ⟨h1, h3⟩ := and2 (show (mtT G X.N X.env.scope t c && mtE G X.N X.env.scope a x && mtE G X.N X.env.scope b y) = true from h)
      obtain ⟨h1, h2⟩ := and2 h1
      exact nd_ifx (sT t X c O h1) (sE a X x O h2) (sE b X y O h3)
    | _ => exact absurd h Bool.false_ne_true
  | .idx a i, X, e, O, h => by
    cases e with
    | Subscript x y p =>
      obtain ⟨h1, h3⟩ := and2 (show (plainIx y && mtE G X.N X.env.scope a x && mtE G X.N X.env.scope i y) = true from h)
      obtain ⟨h1, h2⟩ := and2 h1
      exact nd_idx (by have := O.room.units; omega) h1 (sE a X x O h2) (sE i X y O h3)
    | _ => exact absurd h Bool.false_ne_true
  | .slc a lo hi, X, e, O, h => by
    cases e with
    | Subscript x y p =>
      cases y with
      | Slice l u st q =>
        cases st with
        | none =>
          obtain ⟨h1, h3⟩ := and2 (show (mtE G X.N X.env.scope a x && mtO G X.N X.env.scope lo l && mtO G X.N X.env.scope hi u) = true from h)
          obtain ⟨h1, h2⟩ := and2 h1
          exact nd_slc (sE a X x O h1) (sO lo X l O h2) (sO hi X u O h3)
        | some _ => exact absurd h Bool.false_ne_true
      | _ => exact absurd h Bool.false_ne_true
    | _ => exact absurd h Bool.false_ne_true
  | .back a, X, e, O, h => by
    cases e with
    | Subscript x y p =>
      obtain ⟨h1, h2⟩ := and2 (show (backB y && mtE G X.N X.env.scope a x) = true from h)
      obtain ⟨k, p1, p2, p3, rfl⟩ := back_ok h1
      exact nd_back (sE a X x O h2)
    | _ => exact absurd h Bool.false_ne_true
  | .isi a ts, X, e, O, h => by
    match ts, h with
    | [], h => cases e <;> exact absurd h Bool.false_ne_true
    | _ :: _ :: _, h => cases e <;> exact absurd h Bool.false_ne_true
    | [t], h =>
      cases e with
      | Call fe args kws cp =>
        cases fe with
        | Name f p =>
          match args, h with
          | [], h => exact absurd h Bool.false_ne_true
          | [_], h => exact absurd h Bool.false_ne_true
          | _ :: b :: _ :: _, h => cases b <;> cases kws <;> exact absurd h Bool.false_ne_true
          | [x, b], h =>
            cases b with
            | Name y q =>
              cases kws with
              | nil =>
                obtain ⟨h1, h6⟩ := and2 (show (decide (f = sOf "isinstance") && freeB G X.env.scope f && decide (y = sOf (tyS t)) && freeB G X.env.scope y && notStar x && mtE G X.N X.env.scope a x) = true from h)
                obtain ⟨h1, h5⟩ := and2 h1
                obtain ⟨h1, h4⟩ := and2 h1
                obtain ⟨h1, h3⟩ := and2 h1
                obtain ⟨h1, h2⟩ := and2 h1
                obtain rfl := dec_t h1
                obtain rfl := dec_t h3
                exact nd_isi O (sE a X x O h6) h2 h4 h5
              | cons _ _ => exact absurd h Bool.false_ne_true
            | _ => exact absurd h Bool.false_ne_true
        | _ => exact absurd h Bool.false_ne_true
      | _ => exact absurd h Bool.false_ne_true
  | .bi b es, X, e, O, h => by
    cases e with
    | Call fe args kws cp =>
      cases fe with
      | Name f p =>
        cases kws with
        | nil =>
          by_cases hb : b = .gcd
          · subst hb
            obtain ⟨h1, h6⟩ := and2 (show (decide (f = sOf "gcd") && glB X.env.scope f && G.gcd && dbg f && !args.isEmpty && mtL G X.N X.env.scope es args) = true from h)
            obtain ⟨h1, h5⟩ := and2 h1
            obtain ⟨h1, h4⟩ := and2 h1
            obtain ⟨h1, h3⟩ := and2 h1
            obtain ⟨h1, h2⟩ := and2 h1
            have q := sL es X args O h6
            have hx := dec_t h1
            cases args with
            | nil => cases h5
            | cons a args => exact nd_gcd O hx h2 h4 h3 q.pa q.stars
          · have h' : (decide (f = sOf (biN b)) && freeB G X.env.scope f && !args.isEmpty && mtL G X.N X.env.scope es args) = true := by
              cases b <;> first | exact h | exact absurd rfl hb
            obtain ⟨h1, h6⟩ := and2 h'
            obtain ⟨h1, h5⟩ := and2 h1
            obtain ⟨h1, h2⟩ := and2 h1
            have q := sL es X args O h6
            have hx := dec_t h1
            cases args with
            | nil => cases h5
            | cons a args => exact nd_bi O hx hb h2 q.pa q.stars
        | cons _ _ => cases b <;> exact absurd h Bool.false_ne_true
      | _ => cases b <;> exact absurd h Bool.false_ne_true
    | _ => cases b <;> exact absurd h Bool.false_ne_true
  | .call f es, X, e, O, h => by
    cases e with
    | Call fe args kws cp =>
      cases fe with
      | Name x p =>
        cases kws with
        | nil =>
          obtain ⟨h1, h4⟩ := and2 (show ((match G.fns[f]? with
            | some p => decide (p.1 = x)
            | none => false) && glB X.env.scope x && dbg x && mtL G X.N X.env.scope es args) = true from h)
          obtain ⟨h1, h3⟩ := and2 h1
          obtain ⟨h1, h2⟩ := and2 h1
          split at h1
          · rename_i pr hf
            obtain ⟨nm, ps⟩ := pr
            obtain rfl := dec_t h1
            have q := sL es X args O h4
            exact nd_call O hf h2 h3 q.pa q.stars q.len
          · cases h1
        | cons _ _ => exact absurd h Bool.false_ne_true
      | _ => exact absurd h Bool.false_ne_true
    | _ => exact absurd h Bool.false_ne_true
  | .callk f es ks ws, X, e, O, h => by
    cases e with
    | Call fe args kws cp =>
      cases fe with
      | Name x p =>
        obtain ⟨h1, h5⟩ := and2 (show ((match G.fns[f]? with
          | some p => decide (p.1 = x) && mtK G X.N X.env.scope p.2 ks ws kws && decide ((f, es.length, ks) ∈ G.kws)
          | none => false) && glB X.env.scope x && dbg x && !kws.isEmpty && mtL G X.N X.env.scope es args) = true from h)
        obtain ⟨h1, h4⟩ := and2 h1
        obtain ⟨h1, h3⟩ := and2 h1
        obtain ⟨h1, h2⟩ := and2 h1
        split at h1
        · rename_i pr hf
          obtain ⟨nm, ps⟩ := pr
          obtain ⟨h1, h8⟩ := and2 h1
          obtain ⟨h1, h7⟩ := and2 h1
          obtain rfl := dec_t h1
          have q := sL es X args O h5
          exact nd_callk O hf h2 h3 q.pa q.stars q.len (sK ws X ps ks kws O h7) h7 (dec_t h8)
        · cases h1
      | _ => exact absurd h Bool.false_ne_true
    | _ => exact absurd h Bool.false_ne_true
  | .append a b, X, e, O, h => by
    cases e with
    | Call fe args kws cp =>
      cases fe with
      | Attribute o m ap =>
        cases o with
        | Name o op =>
          match args, kws, h with
          | [x], [], h =>
            obtain ⟨h1, h5⟩ := and2 (show (decide (m = sOf "append") && (ap.endLine == cp.line) && notStar x && mtE G X.N X.env.scope a (.Name o op) && mtE G X.N X.env.scope b x) = true from h)
            obtain ⟨h1, h4⟩ := and2 h1
            obtain ⟨h1, h3⟩ := and2 h1
            obtain ⟨h1, h2⟩ := and2 h1
            obtain rfl := dec_t h1
            exact nd_append h2 h3 (sE a X _ O h4) (sE b X x O h5)
          | [], _, h => exact absurd h Bool.false_ne_true
          | [_], _ :: _, h => exact absurd h Bool.false_ne_true
          | _ :: _ :: _, _, h => exact absurd h Bool.false_ne_true
        | _ => exact absurd h Bool.false_ne_true
      | _ => exact absurd h Bool.false_ne_true
    | _ => exact absurd h Bool.false_ne_true
  | .extend a b, X, e, O, h => by
    cases e with
    | Call fe args kws cp =>
      cases fe with
      | Attribute o m ap =>
        cases o with
        | Name o op =>
          match args, kws, h with
          | [x], [], h =>
            obtain ⟨h1, h5⟩ := and2 (show (decide (m = sOf "extend") && (ap.endLine == cp.line) && notStar x && mtE G X.N X.env.scope a (.Name o op) && mtE G X.N X.env.scope b x) = true from h)
            obtain ⟨h1, h4⟩ := and2 h1
            obtain ⟨h1, h3⟩ := and2 h1
            obtain ⟨h1, h2⟩ := and2 h1
            obtain rfl := dec_t h1
            exact nd_extend h2 h3 (sE a X _ O h4) (sE b X x O h5)
          | [], _, h => exact absurd h Bool.false_ne_true
          | [_], _ :: _, h => exact absurd h Bool.false_ne_true
          | _ :: _ :: _, _, h => exact absurd h Bool.false_ne_true
        | _ => exact absurd h Bool.false_ne_true
      | _ => exact absurd h Bool.false_ne_true
    | _ => exact absurd h Bool.false_ne_true
  | .pop a, X, e, O, h => by
    cases e with
    | Call fe args kws cp =>
      cases fe with
      | Attribute o m ap =>
        cases o with
        | Name o op =>
          match args, kws, h with
          | [], [], h =>
            obtain ⟨h1, h4⟩ := and2 (show (decide (m = sOf "pop") && (ap.endLine == cp.line) && mtE G X.N X.env.scope a (.Name o op)) = true from h)
            obtain ⟨h1, h2⟩ := and2 h1
            obtain rfl := dec_t h1
            exact nd_pop h2 (sE a X _ O h4)
          | [], _ :: _, h => exact absurd h Bool.false_ne_true
          | _ :: _, _, h => exact absurd h Bool.false_ne_true
        | _ => exact absurd h Bool.false_ne_true
      | _ => exact absurd h Bool.false_ne_true
    | _ => exact absurd h Bool.false_ne_true
  | .lc own tg k es cs a, X, e, O, h => by
    obtain ⟨elt, tgt, iter, ifs, scope, pos, vs, rfl, hs, hl, ht, ha, hb, hg, ho⟩ := lc_inv e h
    obtain ⟨q1, q2⟩ := src_of O hs (sL es X vs O hl)
    exact LcOk.pe O ⟨q1, hb, fun s H Ca cl fp => tgt_ok (X := X.blk s H scope (compEnvC scope cl Ca X.env) fp) (fun _ z => z) O.calm O.nd tg tgt hg, fun s H Ca cl fp => sTs cs (X.blk s H scope (compEnvC scope cl Ca X.env) fp) ifs (O.blk s H scope _ fp) ht,
      fun s H Ca cl fp => sE a (X.blk s H scope (compEnvC scope cl Ca X.env) fp) elt (O.blk s H scope _ fp) ha, q2, ho⟩
theorem sL : ∀ (as : List IE) (X : L2.Cx) (es : List Expr), Ok G T n C X → mtL G X.N X.env.scope as es = true → PEs X C as es
  | [], X, [], O, h => .nil
  | [], X, _ :: _, O, h => absurd h Bool.false_ne_true
  | _ :: _, X, [], O, h => absurd h Bool.false_ne_true
  | a :: as, X, e :: es, O, h => by
    obtain ⟨h1, h3⟩ := and2 (show (notStar e && mtE G X.N X.env.scope a e && mtL G X.N X.env.scope as es) = true from h)
    obtain ⟨h1, h2⟩ := and2 h1
    exact .cons (sE a X e O h2) h1 (sL as X es O h3)
theorem sO : ∀ (a : Option IE) (X : L2.Cx) (e : Option Expr), Ok G T n C X → mtO G X.N X.env.scope a e = true → PO X e (rO X.K (evO C a))
  | none, X, none, O, h => no_none
  | none, X, some _, O, h => absurd h Bool.false_ne_true
  | some _, X, none, O, h => absurd h Bool.false_ne_true
  | some a, X, some e, O, h => no_some (sE a X e O h)
theorem sT : ∀ (a : IT) (X : L2.Cx) (e : Expr), Ok G T n C X → mtT G X.N X.env.scope a e = true → PT X e (rT X.K (evT C a))
  | .val a, X, e, O, h => by
    obtain ⟨h1, h2⟩ := and2 (show (plainT e && mtE G X.N X.env.scope a e) = true from h)
    exact nt_val (sE a X e O h2) h1
  | .not t, X, e, O, h => by
    cases e with
    | UnaryOp o x p =>
      cases o with
      | Not => exact nt_not (sT t X x O h)
      | _ => exact absurd h Bool.false_ne_true
    | _ => exact absurd h Bool.false_ne_true
  | .and es, X, e, O, h => by
    cases e with
    | BoolOp o vs p =>
      cases o with
      | And => exact (tand_of (sTL es X vs O h)).pt
      | _ => exact absurd h Bool.false_ne_true
    | _ => exact absurd h Bool.false_ne_true
  | .or es, X, e, O, h => by
    cases e with
    | BoolOp o vs p =>
      cases o with
      | Or => exact (tor_of (sTL es X vs O h)).pt
      | _ => exact absurd h Bool.false_ne_true
    | _ => exact absurd h Bool.false_ne_true
  | .cmp op a b, X, e, O, h => by
    cases e with
    | Compare l os rs p =>
      match os, rs, h with
      | [o], [r], h =>
        obtain ⟨h1, h4⟩ := and2 (show (decide (o = cmpOf op) && !behindInMarks o r && mtE G X.N X.env.scope a l && mtE G X.N X.env.scope b r) = true from h)
        obtain ⟨h1, h3⟩ := and2 h1
        obtain ⟨h1, h2⟩ := and2 h1
        obtain rfl := dec_t h1
        exact nt_cmp O.room.units (sE a X l O h3) (sE b X r O h4) (not_t h2)
      | [], _, h => exact absurd h Bool.false_ne_true
      | [_], [], h => exact absurd h Bool.false_ne_true
      | [_], _ :: _ :: _, h => exact absurd h Bool.false_ne_true
      | _ :: _ :: _, _, h => exact absurd h Bool.false_ne_true
    | _ => exact absurd h Bool.false_ne_true
  | .chain op op' a b c, X, e, O, h => by
    cases e with
    | Compare l os rs p =>
      match os, rs, h with
      | [o, o'], [m, r], h =>
        obtain ⟨h1, h6⟩ := and2 (show (decide (o = cmpOf op) && decide (o' = cmpOf op') && !behindInMarks o' r && mtE G X.N X.env.scope a l && mtE G X.N X.env.scope b m && mtE G X.N X.env.scope c r) = true from h)
        obtain ⟨h1, h5⟩ := and2 h1
        obtain ⟨h1, h4⟩ := and2 h1
        obtain ⟨h1, h3⟩ := and2 h1
        obtain ⟨h1, h2⟩ := and2 h1
        obtain rfl := dec_t h1
        obtain rfl := dec_t h2
        exact nt_chain O.room.units (sE a X l O h4) (sE b X m O h5) (sE c X r O h6) (not_t h3)
      | [], _, h => exact absurd h Bool.false_ne_true
      | [_], _, h => exact absurd h Bool.false_ne_true
      | [_, _], [], h => exact absurd h Bool.false_ne_true
      | [_, _], [_], h => exact absurd h Bool.false_ne_true
      | [_, _], _ :: _ :: _ :: _, h => exact absurd h Bool.false_ne_true
      | _ :: _ :: _ :: _, _, h => exact absurd h Bool.false_ne_true
    | _ => exact absurd h Bool.false_ne_true
theorem sTL : ∀ (as : List IT) (X : L2.Cx) (es : List Expr), Ok G T n C X → mtTL G X.N X.env.scope as es = true → PTLs X C as es
  | [], X, [], O, h => .nil
  | [], X, _ :: _, O, h => absurd h Bool.false_ne_true
  | _ :: _, X, [], O, h => absurd h Bool.false_ne_true
  | a :: as, X, e :: es, O, h => by
    obtain ⟨h1, h3⟩ := and2 (show (mtT G X.N X.env.scope a e && mtTL G X.N X.env.scope as es) = true from h)
    exact .cons (sT a X e O h1) (sTL as X es O h3)
theorem sTs : ∀ (as : List IT) (X : L2.Cx) (es : List Expr), Ok G T n C X → mtTs G X.N X.env.scope as es = true → PTs X es (rT X.K (evC C as))
  | [], X, [], O, h => nts_nil
  | [], X, _ :: _, O, h => absurd h Bool.false_ne_true
  | [_], X, [], O, h => absurd h Bool.false_ne_true
  | [_], X, _ :: _ :: _, O, h => absurd h Bool.false_ne_true
  | _ :: _ :: _, X, _, O, h => absurd h Bool.false_ne_true
  | [a], X, [e], O, h => nts_one (sT a X e O h)
theorem sK : ∀ (as : List IE) (X : L2.Cx) (ps : List Str) (ks : List Nat) (kws : List Keyword), Ok G T n C X → mtK G X.N X.env.scope ps ks as kws = true → PK X kws (rA X.K (evs C as))
  | [], X, ps, [], [], O, h => nk_nil
  | [], X, ps, [], _ :: _, O, h => absurd h Bool.false_ne_true
  | [], X, ps, _ :: _, _, O, h => absurd h Bool.false_ne_true
  | _ :: _, X, ps, [], _, O, h => absurd h Bool.false_ne_true
  | _ :: _, X, ps, _ :: _, [], O, h => absurd h Bool.false_ne_true
  | _ :: _, X, ps, _ :: _, ⟨none, _, _⟩ :: _, O, h => absurd h Bool.false_ne_true
  | a :: as, X, ps, k :: ks, ⟨some nm, e, p⟩ :: kws, O, h => by
    obtain ⟨h1, h3⟩ := and2 (show (decide (ps[k]? = some nm) && mtE G X.N X.env.scope a e && mtK G X.N X.env.scope ps ks as kws) = true from h)
    obtain ⟨h1, h2⟩ := and2 h1
    exact nk_cons (sE a X e O h2) (sK as X ps ks kws O h3)
end
end
end Pd
namespace Pd
open PySem PySem.Spec PyProof.Rows L2
section
variable {G : GC} {T : Tab} {n : Nat} {C : Pd.Cx}
theorem notLc_sw {v : Expr} {t : Option Expr} {l : Nat} {env : PySem.Env} (h : notLc v = true) : swapsWith v t l env = pure false := by
  cases v <;> first | rfl | cases h
theorem notLc_sole {v tg : Expr} {l : Nat} {env : PySem.Env} (h : notLc v = true) : swapsWithSole [tg] v l env = pure false := notLc_sw (t := some tg) h
theorem setB_tup {N : List Str} {sc : Scope} {t : Tg} {a : IE} {ts : List Expr} {k : Nat} {p : Pos} {v : Expr} (h : isTupE v = false) : setB G N sc t a (.Tuple ts k p) v = (notLc v && mtE G N sc a v && mtTg N sc (fun _ => true) t (.Tuple ts k p)) := by
  cases v <;> first | rfl | cases h
theorem setB_nm {N : List Str} {sc : Scope} {t : Tg} {a : IE} {x : Str} {p : Pos} {v : Expr} (h : (match v with | .ListComp .. => false | _ => true) = true) : setB G N sc t a (.Name x p) v = (notLc v && mtE G N sc a v && mtTg N sc (fun _ => true) t (.Name x p)) := by
  cases v <;> first | rfl | cases h
theorem sw_tupE {ts : List Expr} {k : Nat} {p : Pos} {v : Expr} {env : PySem.Env} (h : isTupE v = false) : swappedStores [.Tuple ts k p] v env = pure none := by
  cases v <;> first | rfl | cases h
theorem set_ok {X : L2.Cx} {t : Tg} {a : IE} {tg v : Expr} {pos : Pos} (O : Ok G T n C X) (hk : X.env.scope.kind = .function) (hfn : ∀ x, X.fn x = true) (h : setB G X.N X.env.scope t a tg v = true) : PS X (.Assign [tg] v pos) (rS X.K (evS C (.set t a))) := by
  have tgo : ∀ {e : Expr}, mtTg X.N X.env.scope (fun _ => true) t e = true → PG X e (gOf X.K t) := fun {e} q => tgt_ok (fun x _ => hfn x) O.calm O.nd t e q
  cases tg with
  | Name x p =>
    by_cases hv : notLc v = true
    · have h' : (notLc v && mtE G X.N X.env.scope a v && mtTg X.N X.env.scope (fun _ => true) t (.Name x p)) = true := by
        cases v <;> first | exact h | cases hv
      obtain ⟨h1, h3⟩ := and2 h'
      obtain ⟨h1, h2⟩ := and2 h1
      exact ns_set (sE a X v O h2) (tgo h3) (notLc_sole hv) sw_name rfl
    · cases v with
      | ListComp elt gens scope q =>
        obtain ⟨h0, h3⟩ := and2 (show (mtE G X.N X.env.scope a (.ListComp elt gens scope q) && mtTg X.N X.env.scope (fun _ => true) t (.Name x p) && (decide (X.env.scope.names.lookup x = some .local))) = true from h)
        obtain ⟨hm, ht⟩ := and2 h0
        clear h h0
        have hpe := sE a X _ O hm
        have hsv : swapsWith (.ListComp elt gens scope q) (some (.Name x p)) pos.line X.env = pure (X.env.blockKind == .function && X.env.kindOf x == some .local && p.line == q.line && !(scope.names.any fun (n, k) => n == x && (k == .local || k == .cell))) := rfl
        cases hb : (X.env.blockKind == .function && X.env.kindOf x == some .local && p.line == q.line && !(scope.names.any fun (n, k) => n == x && (k == .local || k == .cell))) with
        | false =>
          rw [hb] at hsv
          exact ns_set hpe (tgo ht) hsv sw_name rfl
        | true =>
          rw [hb] at hsv
          cases t with
          | tp _ => exact absurd ht Bool.false_ne_true
          | nm i =>
            have hi : X.N[i]? = some x := loc_slot ht
            cases a with
            | lc own tg k es cs a =>
              obtain ⟨elt', tgt, iter, ifs, scope', pos', vs, e0, hs, hl, ht', ha, hb, hg, ho⟩ := lc_inv _ hm
              injection e0 with e1 e2 e3 e4
              subst e1 e2 e3 e4
              obtain ⟨q1, q2⟩ := src_of O hs (sL es X vs O hl)
              have z := ps_setLc (spos := pos) (g := gOf X.K tg) (tt := rT X.K (evC C cs)) (te := rE X.K (evE C a)) O.calm O.nd hi (dec_t h3) hsv q1 hb (fun s H Ca cl fp => tgt_ok (X := X.blk s H scope (compEnvC scope cl Ca X.env) fp) (fun _ z => z) O.calm O.nd tg tgt hg)
                (fun s H Ca cl fp => sTs cs (X.blk s H scope (compEnvC scope cl Ca X.env) fp) ifs (O.blk s H scope _ fp) ht') (fun s H Ca cl fp => sE a (X.blk s H scope (compEnvC scope cl Ca X.env) fp) elt (O.blk s H scope _ fp) ha) q2
              rw [own_map] at z
              refine ps_mono z fun D σ H q => ?_
              have q' := set_read q
              unfold gOf at q'
              exact lc_read ho q'
            | cst d => cases d <;> exact absurd hm Bool.false_ne_true
            | isi a ts => exact absurd hm (by cases ts with | nil => exact Bool.false_ne_true | cons t ts => cases ts <;> exact Bool.false_ne_true)
            | bi b es => cases b <;> exact absurd hm Bool.false_ne_true
            | _ => exact absurd hm Bool.false_ne_true
      | SetComp => rw [setB_nm rfl] at h; cases (and2 (and2 h).1).1
      | DictComp => rw [setB_nm rfl] at h; cases (and2 (and2 h).1).1
      | _ => exact absurd rfl hv
  | Tuple ts k p =>
    cases hT : isTupE v with
    | true =>
      cases v with
      | Tuple vs k2 p2 =>
        obtain ⟨h1, h4⟩ := and2 (show (noParB X.env.scope ts vs && vs.all notStar && mtE G X.N X.env.scope a (.Tuple vs k2 p2) && mtTg X.N X.env.scope (fun _ => true) t (.Tuple ts k p)) = true from h)
        obtain ⟨h1, h3⟩ := and2 h1
        obtain ⟨h1, h2⟩ := and2 h1
        exact ns_set (sE a X _ O h3) (tgo h4) rfl (sw_none h1) rfl
      | _ => cases hT
    | false =>
      rw [setB_tup hT] at h
      obtain ⟨h1, h3⟩ := and2 h
      obtain ⟨h1, h2⟩ := and2 h1
      exact ns_set (sE a X _ O h2) (tgo h3) (notLc_sole h1) (sw_tupE hT) rfl
  | _ => exact absurd h Bool.false_ne_true
mutual
theorem sS : ∀ (a : IS) (X : L2.Cx) (st : Stmt), Ok G T n C X → X.env.scope.kind = .function → (∀ x, X.fn x = true) → mtSt G X.N X.env.scope a st = true → PS X st (rS X.K (evS C a))
  | .set t a, X, st, O, hk, hf, h => by
    cases st with
    | Assign ts v p =>
      match ts, h with
      | [tg], h => exact set_ok O hk hf h
      | [], h => exact absurd h Bool.false_ne_true
      | _ :: _ :: _, h => exact absurd h Bool.false_ne_true
    | _ => exact absurd h Bool.false_ne_true
  | .par is es, X, st, O, hk, hf, h => by
    cases st with
    | Assign ts v p =>
      match ts, h with
      | [], h => exact absurd h Bool.false_ne_true
      | a :: _ :: _, h => cases a <;> exact absurd h Bool.false_ne_true
      | [a], h =>
        cases a with
        | Tuple ts k q =>
          cases v with
          | Tuple vs k2 q2 =>
            obtain ⟨h1, h3⟩ := and2 (show (parB X.env.scope ts vs && mtTgs X.N X.env.scope (fun _ => true) (is.map .nm) ts && mtL G X.N X.env.scope es vs) = true from h)
            obtain ⟨h1, h2⟩ := and2 h1
            exact ns_par hk O.calm O.nd (sL es X vs O h3) h1 h2
          | _ => exact absurd h Bool.false_ne_true
        | _ => exact absurd h Bool.false_ne_true
    | _ => exact absurd h Bool.false_ne_true
  | .setix o i e, X, st, O, hk, hf, h => by
    cases st with
    | Assign ts v p =>
      match ts, h with
      | [tg], h =>
        cases tg with
        | Subscript x y q =>
          obtain ⟨h1, h5⟩ := and2 (show (notLc v && plainIx y && mtE G X.N X.env.scope o x && mtE G X.N X.env.scope i y && mtE G X.N X.env.scope e v) = true from h)
          obtain ⟨h1, h4⟩ := and2 h1
          obtain ⟨h1, h3⟩ := and2 h1
          obtain ⟨h1, h2⟩ := and2 h1
          exact ns_setix (by have := O.room.units; omega) (sE e X v O h5) (sE o X x O h3) (sE i X y O h4) h2 (notLc_sole h1)
        | _ => exact absurd h Bool.false_ne_true
      | [], h => exact absurd h Bool.false_ne_true
      | a :: _ :: _, h => exact absurd h (by cases a <;> exact Bool.false_ne_true)
    | _ => exact absurd h Bool.false_ne_true
  | .ex e, X, st, O, hk, hf, h => by
    cases st with
    | Expr v p =>
      obtain ⟨h1, h2⟩ := and2 (show (notLc v && mtE G X.N X.env.scope e v) = true from h)
      exact ns_ex (sE e X v O h2) (notLc_sw h1)
    | _ => exact absurd h Bool.false_ne_true
  | .ret e, X, st, O, hk, hf, h => by
    cases st with
    | Return v p =>
      cases v with
      | some v => exact ns_ret (sE e X v O h)
      | none => exact absurd h Bool.false_ne_true
    | _ => exact absurd h Bool.false_ne_true
  | .retN, X, st, O, hk, hf, h => by
    cases st with
    | Return v p =>
      cases v with
      | none => exact ns_retN
      | some v => exact absurd h Bool.false_ne_true
    | _ => exact absurd h Bool.false_ne_true
  | .iff c a b, X, st, O, hk, hf, h => by
    cases st with
    | If t x y p =>
      obtain ⟨h1, h3⟩ := and2 (show (mtT G X.N X.env.scope c t && mtB G X.N X.env.scope a x && mtB G X.N X.env.scope b y) = true from h)
      obtain ⟨h1, h2⟩ := and2 h1
      exact ns_if (sT c X t O h1) (sB a X x O hk hf h2) (sB b X y O hk hf h3)
    | _ => exact absurd h Bool.false_ne_true
  | .loop tg k es body, X, st, O, hk, hf, h => by
    cases st with
    | For tgt iter x orelse p =>
      cases orelse with
      | nil =>
        obtain ⟨h1, h3⟩ := and2 (show (mtTg X.N X.env.scope (fun _ => true) tg tgt && (match srcOf G X.env.scope k tgt iter with
          | some vs => mtL G X.N X.env.scope es vs
          | none => false) && mtB G X.N X.env.scope body x) = true from h)
        obtain ⟨h1, h2⟩ := and2 h1
        split at h2
        · rename_i vs hv
          obtain ⟨q1, q2⟩ := src_of O hv (sL es X vs O h2)
          exact ns_for O.nox O.calm q1 (tgt_ok (fun x _ => hf x) O.calm O.nd tg tgt h1) (sB body X x O hk hf h3) q2
        · cases h2
      | cons _ _ => exact absurd h Bool.false_ne_true
    | _ => exact absurd h Bool.false_ne_true
  | .whil c body, X, st, O, hk, hf, h => by
    cases st with
    | While t x orelse p =>
      cases orelse with
      | nil =>
        obtain ⟨h1, h2⟩ := and2 (show (mtT G X.N X.env.scope c t && mtB G X.N X.env.scope body x) = true from h)
        exact ns_while O.nox (sT c X t O h1) (sB body X x O hk hf h2)
      | cons _ _ => exact absurd h Bool.false_ne_true
    | _ => exact absurd h Bool.false_ne_true
  | .pass, X, st, O, hk, hf, h => by
    cases st with
    | Pass p => exact ns_pass
    | Expr v p =>
      cases v with
      | Constant c k q =>
        cases c with
        | str x =>
          refine ps_mono ps_doc fun D σ H ⟨ρ, S, env, fl, S', r, re, e, g⟩ => ?_
          obtain ⟨rfl, rfl⟩ := out_inj e
          exact g.now r σ re
        | _ => exact absurd h Bool.false_ne_true
      | _ => exact absurd h Bool.false_ne_true
    | _ => exact absurd h Bool.false_ne_true
  | .brk, X, st, O, hk, hf, h => by
    cases st with
    | Break p => exact ns_brk
    | _ => exact absurd h Bool.false_ne_true
  | .cont, X, st, O, hk, hf, h => by
    cases st with
    | Continue p => exact ns_cont
    | _ => exact absurd h Bool.false_ne_true
  | .never, X, st, O, hk, hf, h => ns_never
theorem sB : ∀ (as : List IS) (X : L2.Cx) (ss : List Stmt), Ok G T n C X → X.env.scope.kind = .function → (∀ x, X.fn x = true) → mtB G X.N X.env.scope as ss = true → PSs X ss (rS X.K (evB C as))
  | [], X, [], O, hk, hf, h => ns_nil
  | [], X, _ :: _, O, hk, hf, h => absurd h Bool.false_ne_true
  | _ :: _, X, [], O, hk, hf, h => absurd h Bool.false_ne_true
  | a :: as, X, s :: ss, O, hk, hf, h => by
    obtain ⟨h1, h2⟩ := and2 (show (mtSt G X.N X.env.scope a s && mtB G X.N X.env.scope as ss) = true from h)
    exact ns_cons (sS a X s O hk hf h1) (sB as X ss O hk hf h2)
end
end
end Pd
/-! Nothing below the barrier is changed. -/
namespace Pd
open PySem
def Kept (lo : Nat) (S S' : Sto) : Prop := lo ≤ S.length → S.length ≤ S'.length ∧ S'.take lo = S.take lo
section
variable {lo : Nat} {S S' S'' : Sto}
theorem Kept.refl : Kept lo S S := fun _ => ⟨Nat.le_refl _, rfl⟩
theorem Kept.trans (a : Kept lo S S') (b : Kept lo S' S'') : Kept lo S S'' := fun h => by
  obtain ⟨h1, h2⟩ := a h
  obtain ⟨h3, h4⟩ := b (Nat.le_trans h h1)
  exact ⟨Nat.le_trans h1 h3, h4.trans h2⟩
theorem Kept.app {T : Sto} : Kept lo S (S ++ T) := fun h => ⟨by rw [List.length_append]; omega, List.take_append_of_le_length h⟩
theorem Kept.set {n : Nat} {o : SO} (h : lo ≤ n) : Kept lo S (S.set n o) := fun _ => ⟨by rw [List.length_set]; exact Nat.le_refl _, by rw [List.take_set_of_le h]⟩
theorem Kept.write {n : Nat} {o : SO} (h : write lo n o S = some S') : Kept lo S S' := by
  unfold Pd.write at h
  split at h
  · cases h; exact .set ‹_›
  · cases h
theorem Kept.mono {lo' : Nat} (h : lo ≤ lo') (hl : lo' ≤ S.length) (k : Kept lo' S S') : Kept lo S S' := fun _ => by
  obtain ⟨h1, h2⟩ := k hl
  refine ⟨h1, ?_⟩
  have : (S'.take lo').take lo = (S.take lo').take lo := by rw [h2]
  rw [List.take_take, List.take_take, Nat.min_eq_left h] at this
  exact this
theorem ok_inj {α : Type} {a b : α} {S T : Sto} (h : Out.ok a S = Out.ok b T) : a = b ∧ S = T := by cases h; exact ⟨rfl, rfl⟩
theorem bind_ok {α β : Type} {o : Out α} {k : α → Sto → Out β} {b : β} {T : Sto} (h : o.bind k = .ok b T) : ∃ a S, o = .ok a S ∧ k a S = .ok b T := by
  cases o with
  | ok a S => exact ⟨a, S, rfl, h⟩
  | err _ _ _ => cases h
  | bad => cases h
theorem k_bin {op : BOp} {a b d : D} (e : binop op a b S = .ok d S') : Kept lo S S' := by
  unfold binop at e
  split at e
  all_goals first | (obtain ⟨_, rfl⟩ := ok_inj e; exact .refl) | skip
  all_goals first | (split at e <;> first | (obtain ⟨_, rfl⟩ := ok_inj e; exact .refl) | cases e; done) | skip
  · split at e
    · split at e
      · obtain ⟨_, rfl⟩ := ok_inj e; exact .app
      · cases e
    · cases e
  · cases e
theorem k_ofB {b : Option Bool} {d : D} (e : Out.ofB b S = .ok d S') : Kept lo S S' := by
  unfold Out.ofB at e
  split at e
  · obtain ⟨_, rfl⟩ := ok_inj e; exact .refl
  · cases e
theorem k_len {ds : List D} {d : D} (e : bLen ds S = .ok d S') : Kept lo S S' := by
  unfold bLen at e
  split at e
  · split at e
    · split at e
      · obtain ⟨_, rfl⟩ := ok_inj e; exact .refl
      · cases e
    · split at e
      · obtain ⟨_, rfl⟩ := ok_inj e; exact .refl
      · cases e
  · cases e
theorem k_i2 {f : Int → Int → Int} {ds : List D} {d : D} (e : bInt2 f ds S = .ok d S') : Kept lo S S' := by
  unfold bInt2 at e
  split at e
  · obtain ⟨_, rfl⟩ := ok_inj e; exact .refl
  · cases e
theorem k_i1 {f : Int → Int} {ds : List D} {d : D} (e : bInt1 f ds S = .ok d S') : Kept lo S S' := by
  unfold bInt1 at e
  split at e
  · obtain ⟨_, rfl⟩ := ok_inj e; exact .refl
  · cases e
theorem k_list {ds : List D} {d : D} (e : bList ds S = .ok d S') : Kept lo S S' := by
  unfold bList at e
  split at e
  · split at e
    · obtain ⟨_, rfl⟩ := ok_inj e; exact .app
    · cases e
  · cases e
theorem k_tuple {ds : List D} {d : D} (e : bTuple ds S = .ok d S') : Kept lo S S' := by
  unfold bTuple at e
  split at e
  · split at e
    · obtain ⟨_, rfl⟩ := ok_inj e; exact .refl
    · cases e
  · cases e
theorem k_repr {ds : List D} {d : D} (e : bRepr ds S = .ok d S') : Kept lo S S' := by
  unfold bRepr at e
  split at e
  · split at e
    · split at e
      · obtain ⟨_, rfl⟩ := ok_inj e; exact .refl
      · cases e
    · cases e
  · cases e
theorem k_bi {f : Bi} {ds : List D} {d : D} (e : bifn f ds S = .ok d S') : Kept lo S S' := by
  cases f
  case len => exact k_len e
  case gcd => exact k_i2 e
  case abs => exact k_i1 e
  case max => exact k_i2 e
  case min => exact k_i2 e
  case int => exact k_i1 e
  case list => exact k_list e
  case tuple => exact k_tuple e
  case repr => exact k_repr e
  case sum => cases e
theorem k_index {a i d : D} (e : index a i S = .ok d S') : Kept lo S S' := by
  unfold index at e
  split at e
  · split at e
    · obtain ⟨_, rfl⟩ := ok_inj e; exact .refl
    · cases e
  · split at e
    · split at e
      · obtain ⟨_, rfl⟩ := ok_inj e; exact .refl
      · cases e
    · cases e
  · split at e
    · split at e
      · obtain ⟨_, rfl⟩ := ok_inj e; exact .refl
      · cases e
    · cases e
  · cases e
theorem k_slice {a d : D} {l h : Option Int} (e : slice a l h S = .ok d S') : Kept lo S S' := by
  unfold slice at e
  split at e
  · obtain ⟨_, rfl⟩ := ok_inj e; exact .refl
  · split at e
    · obtain ⟨_, rfl⟩ := ok_inj e; exact .app
    · cases e
  · cases e
theorem k_append {a b d : D} (e : appendD lo a b S = .ok d S') : Kept lo S S' := by
  unfold appendD at e
  split at e
  · split at e
    · split at e
      · split at e
        · rename_i hw; obtain ⟨_, rfl⟩ := ok_inj e; exact .write hw
        · cases e
      · cases e
    · cases e
  · cases e
theorem k_extend {a b d : D} (e : extendD lo a b S = .ok d S') : Kept lo S S' := by
  unfold extendD at e
  split at e
  · split at e
    · split at e
      · split at e
        · rename_i hw; obtain ⟨_, rfl⟩ := ok_inj e; exact .write hw
        · cases e
      · cases e
    · cases e
  · cases e
theorem k_pop {a d : D} (e : popD lo a S = .ok d S') : Kept lo S S' := by
  unfold popD at e
  split at e
  · split at e
    · split at e
      · split at e
        · rename_i hw; obtain ⟨_, rfl⟩ := ok_inj e; exact .write hw
        · cases e
      · cases e
    · cases e
  · cases e
theorem k_setix {a i b : D} (e : setixD lo a i b S = some S') : Kept lo S S' := by
  unfold setixD at e
  split at e
  · split at e
    · split at e
      · exact .write e
      · cases e
    · cases e
  · split at e
    · split at e
      · split at e
        · exact .write e
        · cases e
      · cases e
    · cases e
  · cases e
theorem k_for {src : Src} {f : D → Env → Sto → Out Fl} (hf : ∀ d σ S fl S', f d σ S = .ok fl S' → Kept lo S S') : ∀ (m i : Nat) (σ : Env) (S S' : Sto) (fl : Fl), forL src f m i σ S = .ok fl S' → Kept lo S S'
  | 0, _, _, _, _, _, e => by cases e
  | m + 1, i, σ, S, S', fl, e => by
    unfold forL at e
    split at e
    · cases e
    · obtain ⟨_, rfl⟩ := ok_inj e; exact .refl
    · obtain ⟨fl1, S1, e1, e2⟩ := bind_ok e
      have h1 := hf _ _ _ _ _ e1
      cases fl1 with
      | nx σ1 => exact h1.trans (k_for hf m (i + 1) σ1 S1 S' fl e2)
      | ct σ1 => exact h1.trans (k_for hf m (i + 1) σ1 S1 S' fl e2)
      | bk σ1 => obtain ⟨_, rfl⟩ := ok_inj e2; exact h1
      | rt d => obtain ⟨_, rfl⟩ := ok_inj e2; exact h1
theorem k_while {c : Env → Sto → Out Bool} {f : Env → Sto → Out Fl} (hc : ∀ σ S b S', c σ S = .ok b S' → Kept lo S S') (hf : ∀ σ S fl S', f σ S = .ok fl S' → Kept lo S S') : ∀ (m : Nat) (σ : Env) (S S' : Sto) (fl : Fl), whileL c f m σ S = .ok fl S' → Kept lo S S'
  | 0, _, _, _, _, e => by cases e
  | m + 1, σ, S, S', fl, e => by
    unfold whileL at e
    obtain ⟨b, S1, e1, e2⟩ := bind_ok e
    have h0 := hc _ _ _ _ e1
    split at e2
    · obtain ⟨fl1, S2, e3, e4⟩ := bind_ok e2
      have h1 := hf _ _ _ _ e3
      cases fl1 with
      | nx σ1 => exact h0.trans (h1.trans (k_while hc hf m σ1 S2 S' fl e4))
      | ct σ1 => exact h0.trans (h1.trans (k_while hc hf m σ1 S2 S' fl e4))
      | bk σ1 => obtain ⟨_, rfl⟩ := ok_inj e4; exact h0.trans h1
      | rt d => obtain ⟨_, rfl⟩ := ok_inj e4; exact h0.trans h1
    · obtain ⟨_, rfl⟩ := ok_inj e2; exact h0
theorem k_lc {src : Src} {n : Nat} {f : D → Sto → Out (Option D)} (hn : lo ≤ n) (hf : ∀ d S y S', f d S = .ok y S' → Kept lo S S') : ∀ (m i : Nat) (S S' : Sto) (d : D), lcL src n f m i S = .ok d S' → Kept lo S S'
  | 0, _, _, _, _, e => by cases e
  | m + 1, i, S, S', d, e => by
    unfold lcL at e
    split at e
    · cases e
    · obtain ⟨_, rfl⟩ := ok_inj e; exact .refl
    · obtain ⟨y, S1, e1, e2⟩ := bind_ok e
      have h1 := hf _ _ _ _ e1
      cases y with
      | none => exact h1.trans (k_lc hn hf m (i + 1) S1 S' d e2)
      | some y =>
        dsimp only at e2
        split at e2
        · split at e2
          · exact h1.trans ((Kept.set hn).trans (k_lc hn hf m (i + 1) _ S' d e2))
          · cases e2
        · cases e2
end
section
variable {C : Cx} (hC : ∀ f ds S d S', C.cal f C.lo ds S = .ok d S' → Kept C.lo S S')
include hC
mutual
theorem kE : ∀ (a : IE) (σ : Env) (S S' : Sto) (d : D), evE C a σ S = .ok d S' → Kept C.lo S S'
  | .slot i, σ, S, S', d, e => by
    unfold evE at e
    split at e
    · obtain ⟨_, rfl⟩ := ok_inj e; exact .refl
    · cases e
  | .cst _, σ, S, S', d, e => by
    unfold evE at e
    obtain ⟨_, rfl⟩ := ok_inj e; exact .refl
  | .glo i, σ, S, S', d, e => by
    unfold evE at e
    split at e
    · obtain ⟨_, rfl⟩ := ok_inj e; exact .refl
    · cases e
  | .tup es, σ, S, S', d, e => by
    obtain ⟨ds, S1, e1, e2⟩ := bind_ok e
    split at e2
    · obtain ⟨_, rfl⟩ := ok_inj e2; exact kL es σ S _ ds e1
    · cases e2
  | .lst es, σ, S, S', d, e => by
    obtain ⟨ds, S1, e1, e2⟩ := bind_ok e
    split at e2
    · obtain ⟨_, rfl⟩ := ok_inj e2; exact (kL es σ S _ ds e1).trans .app
    · cases e2
  | .dic ks es, σ, S, S', d, e => by
    obtain ⟨ds, S1, e1, e2⟩ := bind_ok e
    have h1 := kL es σ _ _ ds e1
    split at e2
    · split at e2
      · obtain ⟨_, rfl⟩ := ok_inj e2
        exact fun hl => ((Kept.app.trans h1).trans (Kept.set hl)) hl
      · cases e2
    · cases e2
  | .bin op a b, σ, S, S', d, e => by
    obtain ⟨x, S1, e1, e2⟩ := bind_ok e
    obtain ⟨y, S2, e3, e4⟩ := bind_ok e2
    exact (kE a σ S S1 x e1).trans ((kE b σ S1 S2 y e3).trans (k_bin e4))
  | .neg a, σ, S, S', d, e => by
    obtain ⟨x, S1, e1, e2⟩ := bind_ok e
    split at e2
    · obtain ⟨_, rfl⟩ := ok_inj e2; exact kE a σ S _ _ e1
    · cases e2
  | .not a, σ, S, S', d, e => by
    obtain ⟨x, S1, e1, e2⟩ := bind_ok e
    split at e2
    · obtain ⟨_, rfl⟩ := ok_inj e2; exact kE a σ S _ _ e1
    · cases e2
  | .and es, σ, S, S', d, e => kAnd es σ S S' d e
  | .or es, σ, S, S', d, e => kOr es σ S S' d e
  | .cmp op a b, σ, S, S', d, e => by
    obtain ⟨x, S1, e1, e2⟩ := bind_ok e
    obtain ⟨y, S2, e3, e4⟩ := bind_ok e2
    exact (kE a σ S S1 x e1).trans ((kE b σ S1 S2 y e3).trans (k_ofB e4))
  | .chain op op' a b c, σ, S, S', d, e => by
    obtain ⟨x, S1, e1, e2⟩ := bind_ok e
    obtain ⟨y, S2, e3, e4⟩ := bind_ok e2
    have h := (kE a σ S S1 x e1).trans (kE b σ S1 S2 y e3)
    split at e4
    · obtain ⟨z, S3, e5, e6⟩ := bind_ok e4
      exact h.trans ((kE c σ S2 S3 z e5).trans (k_ofB e6))
    · obtain ⟨_, rfl⟩ := ok_inj e4; exact h
    · cases e4
  | .ifx t a b, σ, S, S', d, e => by
    obtain ⟨k, S1, e1, e2⟩ := bind_ok e
    have h := kT t σ S S1 k e1
    split at e2
    · exact h.trans (kE a σ S1 S' d e2)
    · exact h.trans (kE b σ S1 S' d e2)
  | .isi a ts, σ, S, S', d, e => by
    obtain ⟨x, S1, e1, e2⟩ := bind_ok e
    exact (kE a σ S S1 x e1).trans (k_ofB e2)
  | .bi f es, σ, S, S', d, e => by
    obtain ⟨ds, S1, e1, e2⟩ := bind_ok e
    exact (kL es σ S S1 ds e1).trans (k_bi e2)
  | .call f es, σ, S, S', d, e => by
    obtain ⟨ds, S1, e1, e2⟩ := bind_ok e
    exact (kL es σ S S1 ds e1).trans (hC _ _ _ _ _ e2)
  | .callk f es ks ws, σ, S, S', d, e => by
    obtain ⟨ds, S1, e1, e2⟩ := bind_ok e
    obtain ⟨us, S2, e3, e4⟩ := bind_ok e2
    split at e4
    · exact (kL es σ S S1 ds e1).trans ((kL ws σ S1 S2 us e3).trans (hC _ _ _ _ _ e4))
    · cases e4
  | .idx a i, σ, S, S', d, e => by
    obtain ⟨x, S1, e1, e2⟩ := bind_ok e
    obtain ⟨y, S2, e3, e4⟩ := bind_ok e2
    exact (kE a σ S S1 x e1).trans ((kE i σ S1 S2 y e3).trans (k_index e4))
  | .slc a l h, σ, S, S', d, e => by
    obtain ⟨x, S1, e1, e2⟩ := bind_ok e
    obtain ⟨y, S2, e3, e4⟩ := bind_ok e2
    obtain ⟨z, S3, e5, e6⟩ := bind_ok e4
    exact (kE a σ S S1 x e1).trans ((kO l σ S1 S2 y e3).trans ((kO h σ S2 S3 z e5).trans (k_slice e6)))
  | .back a, σ, S, S', d, e => by
    obtain ⟨x, S1, e1, e2⟩ := bind_ok e
    have h := kE a σ S S1 x e1
    split at e2
    · split at e2
      · obtain ⟨_, rfl⟩ := ok_inj e2; exact h.trans .app
      · cases e2
    · cases e2
  | .append a b, σ, S, S', d, e => by
    obtain ⟨x, S1, e1, e2⟩ := bind_ok e
    split at e2
    · obtain ⟨y, S2, e3, e4⟩ := bind_ok e2
      exact (kE a σ S S1 x e1).trans ((kE b σ S1 S2 y e3).trans (k_append e4))
    · cases e2
  | .extend a b, σ, S, S', d, e => by
    obtain ⟨x, S1, e1, e2⟩ := bind_ok e
    split at e2
    · obtain ⟨y, S2, e3, e4⟩ := bind_ok e2
      exact (kE a σ S S1 x e1).trans ((kE b σ S1 S2 y e3).trans (k_extend e4))
    · cases e2
  | .pop a, σ, S, S', d, e => by
    obtain ⟨x, S1, e1, e2⟩ := bind_ok e
    exact (kE a σ S S1 x e1).trans (k_pop e2)
  | .lc own tg k es cs a, σ, S, S', d, e => by
    obtain ⟨ds, S1, e1, e2⟩ := bind_ok e
    have h := kL es σ S S1 ds e1
    split at e2
    · refine fun hl => (h.trans (Kept.app.trans (k_lc (h hl |>.1 |> Nat.le_trans hl) (fun d S y S' q => ?_) _ _ _ _ _ e2))) hl
      split at q
      · obtain ⟨b, S2, q1, q2⟩ := bind_ok q
        have h2 := kC cs _ _ _ _ q1
        split at q2
        · obtain ⟨y, S3, q3, q4⟩ := bind_ok q2
          obtain ⟨_, rfl⟩ := ok_inj q4
          exact h2.trans (kE a _ _ _ _ q3)
        · obtain ⟨_, rfl⟩ := ok_inj q2; exact h2
      · cases q
    · cases e2
theorem kL : ∀ (es : List IE) (σ : Env) (S S' : Sto) (ds : List D), evs C es σ S = .ok ds S' → Kept C.lo S S'
  | [], σ, S, S', d, e => by
    unfold evs at e
    obtain ⟨_, rfl⟩ := ok_inj e; exact .refl
  | a :: es, σ, S, S', d, e => by
    obtain ⟨x, S1, e1, e2⟩ := bind_ok e
    obtain ⟨ds, S2, e3, e4⟩ := bind_ok e2
    obtain ⟨_, rfl⟩ := ok_inj e4
    exact (kE a σ S S1 x e1).trans (kL es σ S1 _ ds e3)
theorem kO : ∀ (a : Option IE) (σ : Env) (S S' : Sto) (d : Option Int), evO C a σ S = .ok d S' → Kept C.lo S S'
  | none, σ, S, S', d, e => by
    unfold evO at e
    obtain ⟨_, rfl⟩ := ok_inj e; exact .refl
  | some a, σ, S, S', d, e => by
    obtain ⟨x, S1, e1, e2⟩ := bind_ok e
    split at e2
    · obtain ⟨_, rfl⟩ := ok_inj e2; exact kE a σ S _ _ e1
    · cases e2
theorem kT : ∀ (a : IT) (σ : Env) (S S' : Sto) (d : Bool), evT C a σ S = .ok d S' → Kept C.lo S S'
  | .val a, σ, S, S', d, e => by
    obtain ⟨x, S1, e1, e2⟩ := bind_ok e
    split at e2
    · obtain ⟨_, rfl⟩ := ok_inj e2; exact kE a σ S _ _ e1
    · cases e2
  | .not a, σ, S, S', d, e => by
    obtain ⟨x, S1, e1, e2⟩ := bind_ok e
    obtain ⟨_, rfl⟩ := ok_inj e2
    exact kT a σ S _ _ e1
  | .and es, σ, S, S', d, e => kAndT es σ S S' d e
  | .or es, σ, S, S', d, e => kOrT es σ S S' d e
  | .cmp op a b, σ, S, S', d, e => by
    obtain ⟨x, S1, e1, e2⟩ := bind_ok e
    obtain ⟨y, S2, e3, e4⟩ := bind_ok e2
    have h := (kE a σ S S1 x e1).trans (kE b σ S1 S2 y e3)
    split at e4
    · obtain ⟨_, rfl⟩ := ok_inj e4; exact h
    · cases e4
  | .chain op op' a b c, σ, S, S', d, e => by
    obtain ⟨x, S1, e1, e2⟩ := bind_ok e
    obtain ⟨y, S2, e3, e4⟩ := bind_ok e2
    have h := (kE a σ S S1 x e1).trans (kE b σ S1 S2 y e3)
    split at e4
    · obtain ⟨z, S3, e5, e6⟩ := bind_ok e4
      split at e6
      · obtain ⟨_, rfl⟩ := ok_inj e6; exact h.trans (kE c σ S2 _ z e5)
      · cases e6
    · obtain ⟨_, rfl⟩ := ok_inj e4; exact h
    · cases e4
theorem kAnd : ∀ (es : List IE) (σ : Env) (S S' : Sto) (d : D), evAnd C es σ S = .ok d S' → Kept C.lo S S'
  | [], σ, S, S', d, e => by cases e
  | [a], σ, S, S', d, e => kE a σ S S' d e
  | a :: b :: es, σ, S, S', d, e => by
    obtain ⟨x, S1, e1, e2⟩ := bind_ok e
    have h := kE a σ S S1 x e1
    split at e2
    · exact h.trans (kAnd (b :: es) σ S1 S' d e2)
    · obtain ⟨_, rfl⟩ := ok_inj e2; exact h
    · cases e2
theorem kOr : ∀ (es : List IE) (σ : Env) (S S' : Sto) (d : D), evOr C es σ S = .ok d S' → Kept C.lo S S'
  | [], σ, S, S', d, e => by cases e
  | [a], σ, S, S', d, e => kE a σ S S' d e
  | a :: b :: es, σ, S, S', d, e => by
    obtain ⟨x, S1, e1, e2⟩ := bind_ok e
    have h := kE a σ S S1 x e1
    split at e2
    · exact h.trans (kOr (b :: es) σ S1 S' d e2)
    · obtain ⟨_, rfl⟩ := ok_inj e2; exact h
    · cases e2
theorem kAndT : ∀ (es : List IT) (σ : Env) (S S' : Sto) (d : Bool), evAndT C es σ S = .ok d S' → Kept C.lo S S'
  | [], σ, S, S', d, e => by cases e
  | [a], σ, S, S', d, e => kT a σ S S' d e
  | a :: b :: es, σ, S, S', d, e => by
    obtain ⟨x, S1, e1, e2⟩ := bind_ok e
    have h := kT a σ S S1 x e1
    split at e2
    · exact h.trans (kAndT (b :: es) σ S1 S' d e2)
    · obtain ⟨_, rfl⟩ := ok_inj e2; exact h
theorem kOrT : ∀ (es : List IT) (σ : Env) (S S' : Sto) (d : Bool), evOrT C es σ S = .ok d S' → Kept C.lo S S'
  | [], σ, S, S', d, e => by cases e
  | [a], σ, S, S', d, e => kT a σ S S' d e
  | a :: b :: es, σ, S, S', d, e => by
    obtain ⟨x, S1, e1, e2⟩ := bind_ok e
    have h := kT a σ S S1 x e1
    split at e2
    · obtain ⟨_, rfl⟩ := ok_inj e2; exact h
    · exact h.trans (kOrT (b :: es) σ S1 S' d e2)
theorem kC : ∀ (es : List IT) (σ : Env) (S S' : Sto) (d : Bool), evC C es σ S = .ok d S' → Kept C.lo S S'
  | [], σ, S, S', d, e => by
    unfold evC at e
    obtain ⟨_, rfl⟩ := ok_inj e; exact .refl
  | a :: es, σ, S, S', d, e => by
    obtain ⟨x, S1, e1, e2⟩ := bind_ok e
    have h := kT a σ S S1 x e1
    split at e2
    · exact h.trans (kC es σ S1 S' d e2)
    · obtain ⟨_, rfl⟩ := ok_inj e2; exact h
end
mutual
theorem kS : ∀ (a : IS) (σ : Env) (S S' : Sto) (fl : Fl), evS C a σ S = .ok fl S' → Kept C.lo S S'
  | .set t a, σ, S, S', d, e => by
    obtain ⟨x, S1, e1, e2⟩ := bind_ok e
    split at e2
    · obtain ⟨_, rfl⟩ := ok_inj e2; exact kE hC a σ S _ _ e1
    · cases e2
  | .par is es, σ, S, S', d, e => by
    obtain ⟨x, S1, e1, e2⟩ := bind_ok e
    split at e2
    · obtain ⟨_, rfl⟩ := ok_inj e2; exact kL hC es σ S _ _ e1
    · cases e2
  | .setix o i a, σ, S, S', d, e => by
    obtain ⟨x, S1, e1, e2⟩ := bind_ok e
    obtain ⟨y, S2, e3, e4⟩ := bind_ok e2
    obtain ⟨z, S3, e5, e6⟩ := bind_ok e4
    have h := (kE hC a σ S S1 x e1).trans ((kE hC o σ S1 S2 y e3).trans (kE hC i σ S2 S3 z e5))
    split at e6
    · rename_i hw; obtain ⟨_, rfl⟩ := ok_inj e6; exact h.trans (k_setix hw)
    · cases e6
  | .ex a, σ, S, S', d, e => by
    obtain ⟨x, S1, e1, e2⟩ := bind_ok e
    obtain ⟨_, rfl⟩ := ok_inj e2; exact kE hC a σ S _ _ e1
  | .ret a, σ, S, S', d, e => by
    obtain ⟨x, S1, e1, e2⟩ := bind_ok e
    obtain ⟨_, rfl⟩ := ok_inj e2; exact kE hC a σ S _ _ e1
  | .retN, σ, S, S', d, e => by unfold evS at e; obtain ⟨_, rfl⟩ := ok_inj e; exact .refl
  | .iff c a b, σ, S, S', d, e => by
    obtain ⟨k, S1, e1, e2⟩ := bind_ok e
    have h := kT hC c σ S S1 k e1
    split at e2
    · exact h.trans (kB a σ S1 S' d e2)
    · exact h.trans (kB b σ S1 S' d e2)
  | .loop tg k es body, σ, S, S', d, e => by
    obtain ⟨ds, S1, e1, e2⟩ := bind_ok e
    have h := kL hC es σ S S1 ds e1
    split at e2
    · refine h.trans (k_for (fun d σ S fl S' q => ?_) _ _ _ _ _ _ e2)
      split at q
      · exact kB body _ _ _ _ q
      · cases q
    · cases e2
  | .whil c body, σ, S, S', d, e => by
    unfold evS at e
    exact k_while (fun σ S b S' q => kT hC c σ S S' b q) (fun σ S fl S' q => kB body σ S S' fl q) _ _ _ _ _ e
  | .pass, σ, S, S', d, e => by unfold evS at e; obtain ⟨_, rfl⟩ := ok_inj e; exact .refl
  | .brk, σ, S, S', d, e => by unfold evS at e; obtain ⟨_, rfl⟩ := ok_inj e; exact .refl
  | .cont, σ, S, S', d, e => by unfold evS at e; obtain ⟨_, rfl⟩ := ok_inj e; exact .refl
  | .never, σ, S, S', d, e => by unfold evS at e; cases e
theorem kB : ∀ (as : List IS) (σ : Env) (S S' : Sto) (fl : Fl), evB C as σ S = .ok fl S' → Kept C.lo S S'
  | [], σ, S, S', d, e => by unfold evB at e; obtain ⟨_, rfl⟩ := ok_inj e; exact .refl
  | a :: as, σ, S, S', d, e => by
    obtain ⟨fl1, S1, e1, e2⟩ := bind_ok e
    have h := kS a σ S S1 fl1 e1
    cases fl1 with
    | nx σ1 => exact h.trans (kB as σ1 S1 S' d e2)
    | rt _ => obtain ⟨_, rfl⟩ := ok_inj e2; exact h
    | bk _ => obtain ⟨_, rfl⟩ := ok_inj e2; exact h
    | ct _ => obtain ⟨_, rfl⟩ := ok_inj e2; exact h
end
end
theorem k_keep {gc : Bool} {lo n : Nat} {d d' : D} {S S' S'' : Sto} (h : Kept lo S S') (hg : gc = true → n = S.length ∧ Kept n S S') (e : keep gc n d S' = .ok d' S'') : Kept lo S S'' := by
  cases gc with
  | false => obtain ⟨_, rfl⟩ := ok_inj e; exact h
  | true =>
    obtain ⟨rfl, hk⟩ := hg rfl
    obtain ⟨h1, h2⟩ := hk (Nat.le_refl _)
    rw [List.take_length] at h2
    unfold keep at e
    dsimp only at e
    split at e
    · obtain ⟨_, rfl⟩ := ok_inj e
      rw [h2]
      exact .refl
    · split at e
      · split at e
        · split at e
          · obtain ⟨_, rfl⟩ := ok_inj e
            rw [h2]
            exact .app
          · cases e
        · cases e
      · cases e
theorem k_fn {C : Cx} {f : Fn} {ds : List D} {S S' : Sto} {d : D} (hC : ∀ lo f ds S d S', C.cal f lo ds S = .ok d S' → Kept lo S S') (e : runFn C f ds S = .ok d S') : Kept C.lo S S' := by
  unfold runFn at e
  split at e
  · obtain ⟨fl, S1, e1, e2⟩ := bind_ok e
    have h := kB (C := { C with lo := if f.gc = true then S.length else C.lo }) (fun g ds S d S' q => hC _ _ _ _ _ _ q) _ _ _ _ _ e1
    have hk : Kept C.lo S S1 := by
      by_cases hg : f.gc = true
      · simp only [hg, if_true] at h
        exact fun hl => (Kept.mono hl (Nat.le_refl _) h) hl
      · simp only [hg, if_false] at h
        exact h
    have hg : f.gc = true → S.length = S.length ∧ Kept S.length S S1 := fun hg => ⟨rfl, by simpa only [hg, if_true] using h⟩
    cases fl with
    | nx _ => exact k_keep hk hg e2
    | rt _ => exact k_keep hk hg e2
    | bk _ => cases e2
    | ct _ => cases e2
  · cases e
theorem k_run {T : Tab} : ∀ (n lo f : Nat) (ds : List D) (S : Sto) (d : D) (S' : Sto), run T n f lo ds S = .ok d S' → Kept lo S S'
  | 0, _, _, _, _, _, _, e => by cases e
  | n + 1, lo, f, ds, S, d, S', e => by
    unfold run at e
    split at e
    · exact k_fn (fun lo f ds S d S' q => k_run n lo f ds S d S' q) e
    · cases e
end Pd
namespace Pd
open PySem PySem.Spec PyProof.Rows L2
/-! ### what is kept of a store -/
mutual
def bndD (k : Nat) : D → Prop
  | .tup xs => bndDs k xs
  | .ref n => n < k
  | _ => True
def bndDs (k : Nat) : List D → Prop
  | [] => True
  | x :: r => bndD k x ∧ bndDs k r
end
section
variable {K : PySem.W.Frag} {H H' : Hp} {ρ ρ' : List Addr}
mutual
theorem Rep.bnd : ∀ {d : D} {v : V}, Rep K H ρ d v → bndD ρ.length d
  | .tup xs, v, h => by
    unfold Rep at h
    obtain ⟨a, vs, _, _, q⟩ := h
    unfold bndD
    exact Reps.bnd q
  | .ref n, v, h => by
    unfold Rep at h
    obtain ⟨a, e, _⟩ := h
    unfold bndD
    exact (List.getElem?_eq_some_iff.mp e).1
  | .non, _, _ => by unfold bndD; trivial
  | .bl _, _, _ => by unfold bndD; trivial
  | .int _, _, _ => by unfold bndD; trivial
  | .str _, _, _ => by unfold bndD; trivial
theorem Reps.bnd : ∀ {ds : List D} {vs : List V}, Reps K H ρ ds vs → bndDs ρ.length ds
  | [], _, _ => by unfold bndDs; trivial
  | d :: ds, vs, h => by
    unfold Reps at h
    obtain ⟨v, r, _, h1, h2⟩ := h
    unfold bndDs
    exact ⟨Rep.bnd h1, Reps.bnd h2⟩
end
mutual
theorem Rep.back (p : Pre ρ ρ') : ∀ {d : D} {v : V}, Rep K H ρ' d v → bndD ρ.length d → Rep K H ρ d v
  | .tup xs, v, h, b => by
    unfold Rep at h ⊢
    unfold bndD at b
    obtain ⟨a, vs, e, s, q⟩ := h
    exact ⟨a, vs, e, s, Reps.back p q b⟩
  | .ref n, v, h, b => by
    unfold Rep at h ⊢
    unfold bndD at b
    obtain ⟨a, e, e2⟩ := h
    have q := List.getElem?_eq_getElem b
    have q2 := p _ _ q
    rw [e] at q2
    cases q2
    exact ⟨_, q, e2⟩
  | .non, _, h, _ => by unfold Rep at h ⊢; exact h
  | .bl _, _, h, _ => by unfold Rep at h ⊢; exact h
  | .int _, _, h, _ => by unfold Rep at h ⊢; exact h
  | .str _, _, h, _ => by unfold Rep at h ⊢; exact h
theorem Reps.back (p : Pre ρ ρ') : ∀ {ds : List D} {vs : List V}, Reps K H ρ' ds vs → bndDs ρ.length ds → Reps K H ρ ds vs
  | [], _, h, _ => by unfold Reps at h ⊢; exact h
  | d :: ds, vs, h, b => by
    unfold Reps at h ⊢
    unfold bndDs at b
    obtain ⟨v, r, e, h1, h2⟩ := h
    exact ⟨v, r, e, Rep.back p h1 b.1, Reps.back p h2 b.2⟩
end
mutual
theorem bnd_pure {k : Nat} : ∀ {d : D}, pureD d = true → bndD k d
  | .tup xs, h => by unfold pureD at h; unfold bndD; exact bnd_pures h
  | .ref n, h => by unfold pureD at h; cases h
  | .non, _ => by unfold bndD; trivial
  | .bl _, _ => by unfold bndD; trivial
  | .int _, _ => by unfold bndD; trivial
  | .str _, _ => by unfold bndD; trivial
theorem bnd_pures {k : Nat} : ∀ {ds : List D}, pureDs ds = true → bndDs k ds
  | [], _ => by unfold bndDs; trivial
  | d :: ds, h => by
    unfold pureDs at h
    obtain ⟨h1, h2⟩ := and2 h
    unfold bndDs
    exact ⟨bnd_pure h1, bnd_pures h2⟩
end
def bndK (k : Nat) (kvs : List (Str × D)) : Prop := ∀ p ∈ kvs, bndD k p.2
theorem RepK.bnd : ∀ {kvs : List (Str × D)} {vs : List (Key × V)}, RepK K H ρ kvs vs → bndK ρ.length kvs
  | [], _, _ => fun p hp => by cases hp
  | (x, d) :: r, vs, h => by
    unfold RepK at h
    obtain ⟨v, s, _, h1, h2⟩ := h
    intro p hp
    rcases List.mem_cons.mp hp with rfl | hp
    · exact h1.bnd
    · exact RepK.bnd h2 p hp
theorem RepK.back (p : Pre ρ ρ') : ∀ {kvs : List (Str × D)} {vs : List (Key × V)}, RepK K H ρ' kvs vs → bndK ρ.length kvs → RepK K H ρ kvs vs
  | [], _, h, _ => by unfold RepK at h ⊢; exact h
  | (x, d) :: r, vs, h, b => by
    unfold RepK at h ⊢
    obtain ⟨v, s, e, h1, h2⟩ := h
    exact ⟨v, s, e, h1.back p (b _ List.mem_cons_self), RepK.back p h2 fun q hq => b q (List.mem_cons_of_mem _ hq)⟩
/-- the older part of a store, behind a call that changes nothing of it -/
theorem RepS.old {S S' : Sto} (r : RepS K H ρ S) (r' : RepS K H' ρ' S') (p : Pre ρ ρ') (e : S'.take S.length = S) : RepS K H' ρ S := by
  refine ⟨r.len, r.nd, fun n so a e1 e2 => ?_⟩
  have hn : n < S.length := (List.getElem?_eq_some_iff.mp e1).1
  have e3 : S'[n]? = some so := by rw [← e, List.getElem?_take] at e1; rw [if_pos hn] at e1; exact e1
  have ho := r'.obj n so a e3 (p _ _ e2)
  have h0 := r.obj n so a e1 e2
  cases so with
  | lst ds =>
    obtain ⟨vs, q1, q2⟩ := ho
    obtain ⟨_, _, q3⟩ := h0
    exact ⟨vs, q1, q2.back p q3.bnd⟩
  | frz ds =>
    obtain ⟨vs, q1, q2⟩ := ho
    obtain ⟨_, _, q3⟩ := h0
    exact ⟨vs, q1, q2.back p q3.bnd⟩
  | dic ds =>
    obtain ⟨vs, q1, q2, nd⟩ := ho
    obtain ⟨_, _, q3, _⟩ := h0
    exact ⟨vs, q1, q2.back p q3.bnd, nd⟩
theorem keep_ok {gc : Bool} {d d' : D} {S S' S'' : Sto} {v : V} (r : RepS K H ρ S) (r' : RepS K H' ρ' S') (p : Pre ρ ρ') (h : Rep K H' ρ' d v) (hk : gc = true → S'.take S.length = S) (e : keep gc S.length d S' = .ok d' S'') :
    ∃ ρ2, Pre ρ ρ2 ∧ RepS K H' ρ2 S'' ∧ Rep K H' ρ2 d' v := by
  cases gc with
  | false =>
    obtain ⟨rfl, rfl⟩ := ok_inj e
    exact ⟨ρ', p, r', h⟩
  | true =>
    have hS := hk rfl
    have ro := r.old r' p hS
    unfold keep at e
    dsimp only at e
    split at e
    · rename_i hp
      obtain ⟨rfl, rfl⟩ := ok_inj e
      rw [hS]
      exact ⟨ρ, .refl, ro, h.back p (bnd_pure hp)⟩
    · split at e
      · rename_i a _
        split at e
        · rename_i xs hx
          split at e
          · rename_i hn
            obtain ⟨rfl, rfl⟩ := ok_inj e
            rw [hS]
            obtain ⟨b, e1, ho⟩ := r'.at_ hx
            obtain ⟨vs, q1, q2⟩ := ho
            have q3 : Reps K H' ρ xs vs := q2.back p (bnd_pures hn.2)
            refine ⟨ρ ++ [b], .app, ⟨by rw [List.length_append, List.length_append, r.len]; rfl, fun i j c ei ej => ?_, fun n so c f1 f2 => ?_⟩, ?_⟩
            · have hi := (List.getElem?_eq_some_iff.mp ei).1
              have hj := (List.getElem?_eq_some_iff.mp ej).1
              rw [List.length_append] at hi hj
              have old : ∀ m, m < ρ.length → ρ[m]? = some b → ∃ ds, S[m]? = some (.frz ds) := fun m hm em => by
                rcases r'.nd m a b (p _ _ em) e1 with z | ⟨ds, z⟩ | ⟨ds, z⟩
                · rw [r.len] at hm; omega
                · refine ⟨ds, ?_⟩
                  rw [← hS, List.getElem?_take, if_pos (by rw [← r.len]; exact hm)]
                  exact z
                · rw [hx] at z; cases z
              by_cases ci : i < ρ.length
              · rw [List.getElem?_append_left ci] at ei
                by_cases cj : j < ρ.length
                · rw [List.getElem?_append_left cj] at ej
                  rcases r.nd i j c ei ej with z | ⟨ds, z⟩ | ⟨ds, z⟩
                  · exact .inl z
                  · exact .inr (.inl ⟨ds, by rw [List.getElem?_append_left (by rw [← r.len]; exact ci)]; exact z⟩)
                  · exact .inr (.inr ⟨ds, by rw [List.getElem?_append_left (by rw [← r.len]; exact cj)]; exact z⟩)
                · rw [List.getElem?_append_right (Nat.le_of_not_lt cj)] at ej
                  have hz : j - ρ.length = 0 := by simp at hj; omega
                  rw [hz] at ej
                  obtain rfl : b = c := by simpa using ej
                  obtain ⟨ds, z⟩ := old i ci ei
                  exact .inr (.inl ⟨ds, by rw [List.getElem?_append_left (by rw [← r.len]; exact ci)]; exact z⟩)
              · rw [List.getElem?_append_right (Nat.le_of_not_lt ci)] at ei
                have hz : i - ρ.length = 0 := by simp at hi; omega
                rw [hz] at ei
                obtain rfl : b = c := by simpa using ei
                by_cases cj : j < ρ.length
                · rw [List.getElem?_append_left cj] at ej
                  obtain ⟨ds, z⟩ := old j cj ej
                  exact .inr (.inr ⟨ds, by rw [List.getElem?_append_left (by rw [← r.len]; exact cj)]; exact z⟩)
                · exact .inl (by simp at hi hj; omega)
            · by_cases hn2 : n < S.length
              · rw [List.getElem?_append_left hn2] at f1
                rw [List.getElem?_append_left (by rw [r.len]; exact hn2)] at f2
                exact (ro.obj n so c f1 f2).keep .refl .app (.inl rfl)
              · have hlt := (List.getElem?_eq_some_iff.mp f1).1
                rw [List.length_append] at hlt
                have en : n = S.length := by simp at hlt; omega
                subst en
                rw [List.getElem?_append_right (Nat.le_refl _), Nat.sub_self] at f1
                rw [← r.len, List.getElem?_append_right (Nat.le_refl _), Nat.sub_self] at f2
                simp at f1 f2
                subst f1 f2
                exact ⟨vs, q1, q3.mono .refl .app⟩
            · unfold Rep at h ⊢
              obtain ⟨c, c1, c2⟩ := h
              rw [e1] at c1
              cases c1
              exact ⟨b, by rw [← r.len, List.getElem?_append_right (Nat.le_refl _), Nat.sub_self]; rfl, c2⟩
          · cases e
        · cases e
      · cases e
end
/-! ### a def's body keeps its promise -/
theorem fnG_of {P : Program} {w : World} {K : PySem.W.Frag} {mg : Str → Option Value} {base : Heap} {k : Nat} {f : Addr} {name qual : Str} {params : Arguments} {body : List Stmt} {scope : Scope} {dV kV doc pm cdv ct oc : Value} {an od : Option Addr}
    {osl : Array (Option Value)} {N ps : List Str} {sp : Sp} (lk : K.lookup f = some ⟨oc, od, .func (PySem.W.fnOf name qual params body scope dV kV doc pm an cdv ct), osl⟩) (hcd : PySem.W.codeIn K cdv qual = true) (S : FnScope N ps scope)
    (len : ∀ vs H Q E, sp vs H Q E → vs.length = ps.length)
    (hbody : ∀ (A : Around) (outer : List PySem.Env) (s : Shared) (H : Hp) (vs : List V) (Q : VK), Room k (A.deeper (envOfC qual scope s.heap.objs.size f cdv)) → A.guards = some [] → sp vs H Q E0 →
      ∃ t, PSs (cxOf CX0 P w K mg base N qual scope f cdv A outer s H E0).nox body t ∧ t { nx := fun _ H' => Q .non H', rt := Q } (start N vs) H) :
    FnG P w K mg base (k + 1) f (PySem.W.fnOf name qual params body scope dV kV doc pm an cdv ct) ps sp := by
  refine ⟨len, fun A outer s H args us vs Q hr hgu e0 hb r hsp => ?_⟩
  have hl := len _ _ _ _ hsp
  have KX : K.In s.heap := e0.mod.kin.keeps fun b o e => (e0.bs b o e).1
  have lim : s.heap.NoLimit := e0.mod.nolimit.keeps fun b o e => (e0.bs b o e).1
  have hkind : ∀ y ∈ ps.zip us, scope.names.lookup y.1 = some .local ∨ (scope.names.lookup y.1 = some .cell ∧ ((cellsFrom (s.heap.objs.size + 1) scope.names []).lookup y.1).isSome = true) := fun ⟨n, v⟩ hy => by
    rcases S.par n (List.of_mem_zip hy).1 with q | q
    · exact .inl q
    · exact .inr ⟨q, PySem.W.cellsFrom_some _ _ _ (.inl q)⟩
  refine codeAny_call_function hr.depth (KX _ _ lk) rfl S.co S.gen rfl (PySem.W.codeRec_of KX hcd) (hb _ _ _ _ ?_)
  refine wpAny_newFunctionEnv_cells S.kind hkind fun env he s1 x => ?_
  subst he
  refine ⟨lim.keeps x.toInCall.keep, codeAny_func ?_⟩
  obtain ⟨t, ht, hq⟩ := hbody A outer s H vs Q (hr.deeper _) hgu hsp
  have I : L2.Inv (cxOf CX0 P w K mg base N qual scope f cdv A outer s H E0) [] (start N vs) H s1 := inv_start S hr.hd e0 hl r x
  refine wpAny_mono (ht.nox.run [] s1 (start N vs) H _ I hq) (fun fl s' hs => ?_) fun e s' hs => hs
  have fin : ∀ {σ' : L2.St} {H' : Hp} {v : V} {u : Value}, L2.Inv (cxOf CX0 P w K mg base N qual scope f cdv A outer s H E0) [] σ' H' s' → RelV v u → Q v H' → CE outer P w H s Q u s' :=
    fun {σ' H' v u} J rv q => ⟨v, H', J.os, J.bare, J.base, J.hok, rv, q⟩
  cases fl with
  | ret u =>
    obtain ⟨v, σ', H', J, rv, q⟩ := hs
    exact fin J rv q
  | next =>
    obtain ⟨σ', H', J, q⟩ := hs
    exact fin (v := V.non) (u := Value.none) J rfl q
  | brk =>
    obtain ⟨_, _, _, q⟩ := hs
    exact False.elim q
  | cont =>
    obtain ⟨_, _, _, q⟩ := hs
    exact False.elim q
theorem fnG_of_D {P : Program} {w : World} {K : PySem.W.Frag} {mg : Str → Option Value} {base : Heap} {x qual : Str} {params : Arguments} {body : List Stmt} {scope : Scope} {dvs : List V} {kws : List (Str × V)} {f : Addr} {fd : FuncData} {N ps : List Str} {k : Nat} {sp : Sp}
    (F : FunD K x qual params body scope dvs kws f fd) (S : FnScope N ps scope) (len : ∀ vs H Q E, sp vs H Q E → vs.length = ps.length)
    (hbody : ∀ (cdv : Value) (A : Around) (outer : List PySem.Env) (s : Shared) (H : Hp) (vs : List V) (Q : VK), Room k (A.deeper (envOfC qual scope s.heap.objs.size f cdv)) → A.guards = some [] → sp vs H Q E0 →
      ∃ t, PSs (cxOf CX0 P w K mg base N qual scope f cdv A outer s H E0).nox body t ∧ t { nx := fun _ H' => Q .non H', rt := Q } (start N vs) H) : FnG P w K mg base (k + 1) f fd ps sp := by
  obtain ⟨oc, od, dV, kV, doc, pm, an, cdv, ct, osl, rfl, lk, hcd, _, _⟩ := F.ex
  exact fnG_of lk hcd S len fun A outer s H vs Q hr hgu hsp => hbody cdv A outer s H vs Q hr hgu hsp
/-! ### all defs -/
/-- what is known of a def of the text -/
structure DefF (G : GC) (T : Tab) (K : PySem.W.Frag) (mg : Str → Option Value) (f : Nat) (nm : Str) (ps : List Str) (N : List Str) (fd : Fn) (params : Arguments) (body : List Stmt) (scope : Scope) : Prop where
  fn : T.fns[f]? = some fd
  np : fd.np = ps.length
  nv : fd.nv = N.length
  le : ps.length ≤ N.length
  at_ : ∃ a fd, mg nm = some (.ref a) ∧ FunD K nm nm params body scope [] [] a fd
  sc : FnScope N ps scope
  mt : mtB G N scope fd.body body = true
  bind : ∀ (kV doc pm : Value) (an : Option Addr) (cdv ct : Value) (us : List Value), us.length = ps.length → bindArgs (PySem.W.fnOf nm nm params body scope .none kV doc pm an cdv ct) ⟨us, []⟩ = pure (ps.zip us)
  kw : ∀ (m : Nat) (ks : List Nat), (f, m, ks) ∈ G.kws → ∀ (kV doc pm : Value) (an : Option Addr) (cdv ct : Value) (us ws xs : List Value), us.length = m → ws.length = ks.length → fill us ks ws ps.length 0 = some xs →
    bindArgs (PySem.W.fnOf nm nm params body scope .none kV doc pm an cdv ct) ⟨us, (ks.map fun k => ps.getD k Str.empty).zip ws⟩ = pure (ps.zip xs)
structure AllD (G : GC) (T : Tab) (K : PySem.W.Frag) (mg : Str → Option Value) : Prop where
  fn : ∀ f nm ps, G.fns[f]? = some (nm, ps) → ∃ N fn params body scope, DefF G T K mg f nm ps N fn params body scope
  gl : ∀ (i : Nat) (nm : Str) (d : D), G.glo[i]? = some nm → T.glo[i]? = some d → ∃ u v, mg nm = some u ∧ RelV v u ∧ ∀ H ρ, Rep K H ρ d v
  free : ∀ x ∈ G.free, mg x = none
  gcd : G.gcd = true → mg "gcd" = some (.builtin "math.gcd")
theorem run_len {T : Tab} {n f lo : Nat} {ds : List D} {S S' : Sto} {d : D} {fn : Fn} (hf : T.fns[f]? = some fn) (e : Pd.run T n f lo ds S = .ok d S') : ds.length = fn.np := by
  cases n with
  | zero => cases e
  | succ n =>
    unfold Pd.run at e
    simp only [hf] at e
    unfold runFn at e
    split at e
    · assumption
    · cases e
theorem sp_len {K : PySem.W.Frag} {G : GC} {T : Tab} {mg : Str → Option Value} {n f : Nat} {nm : Str} {ps N : List Str} {fn : Fn} {params : Arguments} {body : List Stmt} {scope : Scope} (d : DefF G T K mg f nm ps N fn params body scope) (vs : List V) (H : Hp) (Q : VK) (E : XK)
    (h : spI K T n f vs H Q E) : vs.length = ps.length := by
  obtain ⟨ρ, S, ds, lo, dd, S', _, r, e, _⟩ := h
  rw [r.len, run_len d.fn e, d.np]
theorem bindsTo_of {K : PySem.W.Frag} {nm : Str} {params : Arguments} {body : List Stmt} {scope : Scope} {kws : List (Str × V)} {a : Addr} {fd : FuncData} {args : Args} {bs : List (Str × Value)} (F : FunD K nm nm params body scope [] kws a fd) (s : Shared)
    (h : ∀ (kV doc pm : Value) (an : Option Addr) (cdv ct : Value), bindArgs (PySem.W.fnOf nm nm params body scope .none kV doc pm an cdv ct) args = pure bs) : BindsTo s fd args bs := by
  obtain ⟨oc, od, dV, kV, doc, pm, an, cdv, ct, osl, rfl, lk, hcd, hD, hK⟩ := F.ex
  rcases hD with ⟨_, rfl⟩ | ⟨e, _⟩
  · exact .of_eq (h kV doc pm an cdv ct)
  · exact absurd rfl e
/-- ALL DEFS keep their promises, n calls deep -/
theorem all_fnG {P : Program} {w : World} {G : GC} {T : Tab} {K : PySem.W.Frag} {mg : Str → Option Value} {base : Heap} (W : AllD G T K mg) : ∀ (n f : Nat) (nm : Str) (ps : List Str) (N : List Str) (fn : Fn) (params : Arguments) (body : List Stmt) (scope : Scope),
    G.fns[f]? = some (nm, ps) → DefF G T K mg f nm ps N fn params body scope → ∀ a fd, FunD K nm nm params body scope [] [] a fd → FnG P w K mg base n a fd ps (spI K T n f)
  | 0, f, nm, ps, N, fn, params, body, scope, hf, d, a, fd, F => ⟨sp_len d, fun A outer s H args us vs Q hr hg he hb hv ⟨ρ, S, ds, lo, dd, S', _, r, e, _⟩ => by cases e⟩
  | n + 1, f, nm, ps, N, fn, params, body, scope, hf, d, a, fd, F => by
    refine fnG_of_D F d.sc (sp_len d) fun cdv A outer s H vs Q hr hgu ⟨ρ, S, ds, lo, dd, S', r, rs, e, g⟩ => ?_
    unfold Pd.run at e
    simp only [d.fn] at e
    have e' : runFn ⟨Pd.run T n, T.glo, npOf T, lo⟩ fn ds S = .ok dd S' := e
    unfold runFn at e'
    split at e'
    · rename_i hl
      obtain ⟨fl, S1, e1, e2⟩ := bind_ok e'
      generalize hC : ({ cal := Pd.run T n, glo := T.glo, np := npOf T, lo := if fn.gc = true then S.length else lo } : Pd.Cx) = C at e1
      have O : Ok G T n C (cxOf CX0 P w K mg base N nm scope a cdv A outer s H E0).nox := by
        subst hC
        refine ⟨rfl, rfl, rfl, fun f nm ps hf => ?_, W.gl, W.free, W.gcd, hr, hgu, rfl, d.sc.nd, rfl⟩
        obtain ⟨N', fn', params', body', scope', d'⟩ := W.fn f nm ps hf
        obtain ⟨a', fd', hm, F'⟩ := d'.at_
        refine ⟨⟨fn', d'.fn, d'.np⟩, a', fd', hm, F'.kp, fun s us hl => bindsTo_of F' s fun kV doc pm an cdv ct => d'.bind kV doc pm an cdv ct us hl, fun m ks hk s us ws xs l1 l2 hx => bindsTo_of F' s fun kV doc pm an cdv ct => d'.kw m ks hk kV doc pm an cdv ct us ws xs l1 l2 hx, ?_⟩
        exact all_fnG W n f nm ps N' fn' params' body' scope' hf d' a' fd' F'
      have kk : fn.gc = true → S1.take S.length = S := fun hgc => by
        have h := kB (C := C) (fun f ds S d S' q => by subst hC; exact k_run n _ f ds S d S' q) _ _ _ _ _ e1
        have hlo : C.lo = S.length := by subst hC; simp only [hgc, if_true]
        rw [hlo] at h
        have := (h (Nat.le_refl _)).2
        rwa [List.take_length] at this
      refine ⟨rS K (evB C fn.body), sB fn.body (cxOf CX0 P w K mg base N nm scope a cdv A outer s H E0).nox body O d.sc.kind (fun _ => rfl) d.mt, ρ, S, _, fl, S1, r, ?_, e1, fun ρ' H' p x r' => ?_⟩
      · have hle : ds.length ≤ N.length := by rw [hl, d.np]; exact d.le
        have q := RepE.start (N := N) rs hle
        rw [d.nv, ← hl]
        exact q
      · cases fl with
        | nx env =>
          intro σ _
          obtain ⟨ρ2, p2, r2, h2⟩ := keep_ok r r' p rep_non' kk e2
          exact g ρ2 H' V.non p2 x r2 h2
        | rt dv =>
          intro v hv
          obtain ⟨ρ2, p2, r2, h2⟩ := keep_ok r r' p hv kk e2
          exact g ρ2 H' v p2 x r2 h2
        | bk _ => cases e2
        | ct _ => cases e2
    · cases e'
end Pd
namespace Pd
open PySem PySem.Spec PyProof.Rows L2
/-- the script as it is told to the walk: tracked and locked, unless it is one of the module's own objects -/
def scriptH (K : PySem.W.Frag) (a : Addr) (o : Obj) (xs : List V) : Hp := fun b => if b = a ∧ K.lookup a = none then some (.frz o (.lst xs)) else none
theorem lawG {P : Program} {w : World} {K : PySem.W.Frag} {mg mb : Str → Option Value} {k : Nat} {fa a : Addr} {fd : FuncData} {x : Str} {sp : Sp} {s₁ : Shared} {vs : List Value} {ns : List Int}
    (KX : K.In s₁.heap) (hns : s₁.heap.Ns mainGlobals mg) (hb : s₁.heap.Ns builtinsNs mb) (hbb : ∀ x : Str, x ≠ "__name__" → mb x = bootBuiltins x) (hlim : s₁.heap.NoLimit) (hg : s₁.gens = #[])
    (ha : s₁.heap.get? a = some { cls := .type "list", data := .seq vs.toArray }) (hi : IntsAre vs ns) (hl : ns.length ≤ sizeLine) (hr : Room k callerA)
    (F : ∀ base : Heap, K.In base → base.Ns mainGlobals mg → FnG P w K mg base k fa fd [x] sp) (hbind : ∀ (s : Shared) (u : Value), BindsTo s fd ⟨[u], []⟩ [(x, u)])
    (hsp : ∀ H : Hp, FrzL K H a (ns.map V.int) → sp [.ref a] H (fun v _ => v = .bl true) E0) :
    codeAny (model P w) callerA (.call (.ref fa) ⟨[.ref a], []⟩) (fun r s' => r = .ok (.ret (.bool true)) ∧ OldK s₁.heap s'.heap ∧ s'.os = s₁.os ∧ AllBare s'.gens) s₁ := by
  have rv := vals_ints hi
  have lenV := hi.length
  generalize ho : ({ cls := .type "list", data := .seq vs.toArray } : Obj) = o at ha
  let H : Hp := scriptH K a o (ns.map V.int)
  have at_ : ∀ b u, H b = some u → b = a ∧ K.lookup a = none ∧ u = .frz o (.lst (ns.map V.int)) := fun b u z => by
    have z' : (if b = a ∧ K.lookup a = none then some (HO.frz o (.lst (ns.map V.int))) else none) = some u := z
    split at z'
    · rename_i c
      exact ⟨c.1, c.2, (Option.some.inj z').symm⟩
    · cases z'
  have hS : FrzL K H a (ns.map V.int) := by
    cases hk : K.lookup a with
    | none => exact .inl ⟨o, if_pos ⟨rfl, hk⟩⟩
    | some o2 =>
      have e := KX a o2 hk
      rw [ha] at e
      cases e
      subst ho
      exact .inr ⟨_, vs.toArray, _, hk, rfl, rfl, rfl, by rw [List.size_toArray, lenV]; exact hl, by simpa using rv⟩
  have hok : HOk P w H s₁.heap := fun b u z => by
    obtain ⟨rfl, _, rfl⟩ := at_ b u z
    subst ho
    exact ⟨ha, by rw [List.length_map]; exact hl, vs, _, rv, ha⟩
  have noA : ∀ {b : Addr} {ob : Obj} {es : Array DictEntry} {ep : Nat}, s₁.heap.get? b = some ob → ob.data = .dict es ep → H b = none := fun {b ob es ep} e d => by
    cases q : H b with
    | none => rfl
    | some u =>
      obtain ⟨rfl, _, _⟩ := at_ b u q
      rw [ha] at e
      cases e
      subst ho
      cases d
  have nsK : ∀ {b : Addr} {m : Str → Option Value}, s₁.heap.Ns b m → (hidT s₁.heap H).Ns b m := fun {b m} ⟨ob, es, ep, e, d, r⟩ => ⟨ob, es, ep, hidT_get e (noA e d), d, r⟩
  have hKb : K.In (hidT s₁.heap H) := fun b ob e => hidT_get (KX b ob e) (by
    cases q : H b with
    | none => rfl
    | some u =>
      obtain ⟨rfl, z, _⟩ := at_ b u q
      rw [z] at e
      cases e)
  have hM : Mod K mg (hidT s₁.heap H) := ⟨hKb, nsK hns, ⟨mb, nsK hb, hbb⟩, let ⟨mc, h1, h2⟩ := hlim; ⟨mc, nsK h1, h2⟩⟩
  have e0 : Env0 P w K mg (hidT s₁.heap H) callerA [] s₁ H := ⟨rfl, hM, fun b o e => of_hidT e, Nat.le_of_eq (hidT_size _ _), trivial, fun b hb => absurd (show b ∈ ([] : List Addr) from hb) (by simp), hok, .of_eq hg⟩
  refine codeAny_mono ((F _ hKb (nsK hns)).run callerA [] s₁ H ⟨[.ref a], []⟩ [.ref a] [.ref a] _ hr rfl e0 (hbind s₁ (.ref a)) (.cons rfl .nil) (hsp H hS)) fun r s' h => ?_
  cases r with
  | error e => exact False.elim h
  | ok fl =>
    cases fl with
    | next => exact False.elim h
    | brk => exact False.elim h
    | cont => exact False.elim h
    | ret u =>
      obtain ⟨v, H', os, bare, un, hok', r', q⟩ := h
      obtain rfl : v = .bl true := q
      obtain rfl : u = Value.bool true := r'
      refine ⟨rfl, OldK.of_keep fun b ob e => ?_, os, bare⟩
      cases q : H b with
      | none => exact un.keep b ob e q (by intro z; exact absurd (show b ∈ ([] : List Addr) from z) (by simp)) (by simp)
      | some u =>
        obtain ⟨rfl, _, rfl⟩ := at_ b u q
        obtain ⟨e1, _⟩ := hok b _ q
        obtain ⟨e2, _⟩ := hok' b _ (un.frzs b _ _ q)
        rw [e] at e1
        cases e1
        exact e2
/-- what the law's def answers, in the small language -/
def Says (T : Tab) (n f : Nat) (m : Nat) : Prop := ∀ ns : List Int, ns.length ≤ m → (∀ z ∈ ns, Builtin.Int.intBits z ≤ 1048576) → ∃ S', Pd.run T n f 0 [.ref 0] [.frz (ns.map D.int)] = .ok (.bl true) S'
theorem reps_ints {K : PySem.W.Frag} {H : Hp} {ρ : List Addr} : ∀ ns : List Int, Reps K H ρ (ns.map D.int) (ns.map V.int)
  | [] => .nil
  | _ :: ns => .cons rep_int' (reps_ints ns)
theorem says_sp {K : PySem.W.Frag} {T : Tab} {n f m : Nat} (h : Says T n f m) {ns : List Int} (hl : ns.length ≤ m) (hb : ∀ z ∈ ns, Builtin.Int.intBits z ≤ 1048576) {a : Addr} {H : Hp} (hS : FrzL K H a (ns.map V.int)) : spI K T n f [.ref a] H (fun v _ => v = .bl true) E0 := by
  obtain ⟨S', e⟩ := h ns hl hb
  refine ⟨[a], [.frz (ns.map D.int)], [.ref 0], 0, .bl true, S', ⟨rfl, fun i j b ei ej => ?_, fun i so b e1 e2 => ?_⟩, .one ?_, e, fun ρ' H' v _ _ _ hv => rep_bl hv⟩
  · have hi := (List.getElem?_eq_some_iff.mp ei).1
    have hj := (List.getElem?_eq_some_iff.mp ej).1
    simp at hi hj
    exact .inl (by omega)
  · have hi := (List.getElem?_eq_some_iff.mp e1).1
    simp at hi
    subst hi
    cases e1
    cases e2
    exact ⟨_, hS, reps_ints ns⟩
  · unfold Rep
    exact ⟨a, rfl, rfl⟩
/-- THE END of a law -/
theorem walk_pd {l : PySem.W.OpenLaw} {m n f : Nat} {q : Program} {loose : List Str} {XP : (Str → Option Value) → Heap → Prop} {YP : World → Heap → Prop} {d : DefRec} {G : GC} {T : Tab} {x : Str}
    (hn : l.most = some m) (hn2 : m ≤ sizeLine) (hdf : d.params.defaults = []) (hr : Room n callerA) (hf : G.fns[f]? = some (d.name, [x]))
    (F : ∀ (w : World) (mg : Str → Option Value) (fa : Addr) (h : Heap), YP w h → h.Ns mainGlobals mg → mg d.name = some (.ref fa) → ∃ K : PySem.W.Frag, K.In h ∧ AllD G T K mg)
    (hs : Says T n f m) : PySem.W.WalkO q loose XP YP l.row.toRowW d [] (fun f vs => PySem.call f vs) := by
  refine Att.attach_callB hn hdf fun w s₀ s₁ mg mb fa o pm cd doc a vs ns Gr Y ho hd hcd hmg hobj hints hlen hbits hg => ?_
  obtain ⟨K, KX, W⟩ := F w mg fa _ Y Gr.T.g hmg
  obtain ⟨N, fn, params, body, scope, D⟩ := W.fn f d.name [x] hf
  obtain ⟨a', fd, hm, FD⟩ := D.at_
  rw [hmg] at hm
  cases hm
  exact lawG KX Gr.T.g Gr.T.b Gr.T.builtins Gr.T.nolimit hg hobj hints (Nat.le_trans hlen hn2) hr (fun base _ _ => all_fnG W n f d.name [x] N fn params body scope hf D fa fd FD)
    (fun s u => bindsTo_of FD s fun kV doc pm an cdv ct => D.bind kV doc pm an cdv ct [u] rfl) fun H hS => says_sp hs hlen hbits hS
end Pd
namespace Pd
open PySem PySem.Spec PyProof.Rows L2
/-! ### constants of the module -/
mutual
def repB (K : PySem.W.Frag) : D → Value → Bool
  | .non, .none => true
  | .bl b, .bool c => decide (b = c)
  | .int i, .int j _ => decide (i = j)
  | .str x, .str y _ => decide (x = y)
  | .tup xs, .ref a => (match K.lookup a with
    | some ⟨.type c, _, .seq its _, _⟩ => decide (c = "tuple") && (decide (its.size ≤ sizeLine) && repBs K xs its.toList)
    | _ => false)
  | _, _ => false
def repBs (K : PySem.W.Frag) : List D → List Value → Bool
  | [], [] => true
  | x :: xs, u :: us => repB K x u && repBs K xs us
  | _, _ => false
end
mutual
theorem repB_ok {K : PySem.W.Frag} : ∀ (d : D) (u : Value), repB K d u = true → ∃ v, RelV v u ∧ ∀ H ρ, Rep K H ρ d v
  | .non, u, h => by
    cases u with
    | none => exact ⟨.non, rfl, fun _ _ => rep_non'⟩
    | _ => exact absurd h Bool.false_ne_true
  | .bl b, u, h => by
    cases u with
    | bool c => obtain rfl := dec_t (show decide (b = c) = true from h); exact ⟨.bl b, rfl, fun _ _ => rep_bl'⟩
    | _ => exact absurd h Bool.false_ne_true
  | .int i, u, h => by
    cases u with
    | int j t => obtain rfl := dec_t (show decide (i = j) = true from h); exact ⟨.int i, ⟨t, rfl⟩, fun _ _ => rep_int'⟩
    | _ => exact absurd h Bool.false_ne_true
  | .str i, u, h => by
    cases u with
    | str j t => obtain rfl := dec_t (show decide (i = j) = true from h); exact ⟨.str i, ⟨t, rfl⟩, fun _ _ => rep_str'⟩
    | _ => exact absurd h Bool.false_ne_true
  | .tup xs, u, h => by
    cases u with
    | ref a =>
      have h' : (match K.lookup a with
        | some ⟨.type c, _, .seq its _, _⟩ => decide (c = "tuple") && (decide (its.size ≤ sizeLine) && repBs K xs its.toList)
        | _ => false) = true := h
      split at h'
      · rename_i c od its n osl q
        obtain ⟨h1, h2⟩ := and2 h'
        obtain ⟨h2, h3⟩ := and2 h2
        obtain ⟨vs, r, rp⟩ := repBs_ok xs its.toList h3
        refine ⟨.ref a, rfl, fun H ρ => ?_⟩
        unfold Rep
        exact ⟨a, vs, rfl, .inr ⟨_, its, n, q, congrArg Value.type (dec_t h1), rfl, dec_t h2, r⟩, rp H ρ⟩
      · cases h'
    | _ => exact absurd h Bool.false_ne_true
  | .ref n, u, h => by cases u <;> exact absurd h Bool.false_ne_true
theorem repBs_ok {K : PySem.W.Frag} : ∀ (ds : List D) (us : List Value), repBs K ds us = true → ∃ vs, Vals vs us ∧ ∀ H ρ, Reps K H ρ ds vs
  | [], [], _ => ⟨[], .nil, fun _ _ => .nil⟩
  | [], _ :: _, h => absurd h Bool.false_ne_true
  | _ :: _, [], h => absurd h Bool.false_ne_true
  | d :: ds, u :: us, h => by
    obtain ⟨h1, h2⟩ := and2 (show (repB K d u && repBs K ds us) = true from h)
    obtain ⟨v, r, q⟩ := repB_ok d u h1
    obtain ⟨vs, rs, qs⟩ := repBs_ok ds us h2
    exact ⟨v :: vs, .cons r rs, fun H ρ => .cons (q H ρ) (qs H ρ)⟩
end
/-- what else is looked at: constants, free names, gcd -/
def exB (gl : List (Str × D)) (free : List Str) (gc : Bool) (K : PySem.W.Frag) : Bool :=
  (gl.all fun p => match PySem.W.nsIn K mainGlobals p.1 with
    | some (some u) => repB K p.2 u
    | _ => false) && (free.all fun x => He.eqO (PySem.W.nsIn K mainGlobals x) (some none)) && (!gc || He.eqO (PySem.W.nsIn K mainGlobals "gcd") (some (some (.builtin "math.gcd"))))
def pdHook (n : Nat) (fa : List He.Fa) (fn : List He.DefD) (ex : PySem.W.Frag → Bool) : PySem.W.Hook where
  α := He.AlD × Bool
  obs := fun s => (He.obsDG n fa fn s.heap.get?, ex (He.frG s.heap.get? (He.asD s.heap.get? n)))
  val := fun _ => (He.valD fn, true)
  says := fun _ h => ∃ K : PySem.W.Frag, K.In h ∧ He.SaysD fa fn K ∧ ex K = true
  of := fun _ s e => ⟨He.frG s.heap.get? (He.asD s.heap.get? n), He.frG_in, congrArg (fun z : He.AlD × Bool => z.1) e, congrArg (fun z : He.AlD × Bool => z.2) e⟩
  keeps := fun _ _ _ ⟨K, hK, c⟩ k => ⟨K, PySem.W.Frag.In.keeps hK k, c⟩
def pdObs (n : Nat) (fa : List He.Fa) (fn : List He.DefD) (ex : PySem.W.Frag → Bool) (g : Addr → Option Obj) : He.AlD × Bool := (He.obsDG n fa fn g, ex (He.frG g (He.asD g n)))
theorem pdObs_eq {n : Nat} {fa : List He.Fa} {fn : List He.DefD} {ex : PySem.W.Frag → Bool} {g : Addr → Option Obj} {s : Shared} (h : ∀ a, g a = s.heap.get? a) : pdObs n fa fn ex g = (pdHook n fa fn ex).obs s := by
  have e : g = s.heap.get? := funext h
  rw [e] <;> rfl
/-! ### the defs as data -/
structure Dd where
  nm : Str
  ps : List Str
  N : List Str
  fn : Fn
  at_ : Nat
def Dd.datum (top : Nat → Stmt) (d : Dd) : He.DefD := ⟨(d.nm, none), d.nm, d.nm, defArgs (top d.at_), defBody (top d.at_), defScope (top d.at_), [], []⟩
def scopeB (N ps : List Str) (sc : Scope) : Bool :=
  (match sc.kind with | .function => true | _ => false) && !sc.isCoroutine && !sc.isGenerator && decide N.Nodup && decide (N.take ps.length = ps) && (ps.all fun x => decide (sc.names.lookup x = some .local) || decide (sc.names.lookup x = some .cell)) && (sc.names.all fun y => match y.2 with | .free => false | _ => true)
theorem scopeB_ok {N ps : List Str} {sc : Scope} (h : scopeB N ps sc = true) : FnScope N ps sc := by
  obtain ⟨h, h7⟩ := and2 h
  obtain ⟨h, h6⟩ := and2 h
  obtain ⟨h, h5⟩ := and2 h
  obtain ⟨h, h4⟩ := and2 h
  obtain ⟨h, h3⟩ := and2 h
  obtain ⟨h1, h2⟩ := and2 h
  refine ⟨?_, not_t h2, not_t h3, dec_t h4, dec_t h5, fun x hx => ?_, fun y hy z => ?_⟩
  · cases q : sc.kind with
    | function => rfl
    | _ => rw [q] at h1; cases h1
  · have := List.all_eq_true.mp h6 x hx
    rcases Bool.or_eq_true_iff.mp this with q | q
    · exact .inl (dec_t q)
    · exact .inr (dec_t q)
  · have := List.all_eq_true.mp h7 y hy
    rw [z] at this
    cases this
def chkD (G : GC) (top : Nat → Stmt) (d : Dd) : Bool :=
  decide (d.fn.np = d.ps.length) && decide (d.fn.nv = d.N.length) && decide (d.ps.length ≤ d.N.length) && scopeB d.N d.ps (defScope (top d.at_)) && mtB G d.N (defScope (top d.at_)) d.fn.body (defBody (top d.at_))
def BindOk (top : Nat → Stmt) (d : Dd) : Prop := ∀ (kV doc pm : Value) (an : Option Addr) (cdv ct : Value) (us : List Value), us.length = d.ps.length → bindArgs (PySem.W.fnOf d.nm d.nm (defArgs (top d.at_)) (defBody (top d.at_)) (defScope (top d.at_)) .none kV doc pm an cdv ct) ⟨us, []⟩ = pure (d.ps.zip us)
inductive AllB (top : Nat → Stmt) : List Dd → Prop
  | nil : AllB top []
  | cons {d : Dd} {ds : List Dd} (h : BindOk top d) (r : AllB top ds) : AllB top (d :: ds)
theorem AllB.at_ {top : Nat → Stmt} {ds : List Dd} (h : AllB top ds) : ∀ {i : Nat} {d : Dd}, ds[i]? = some d → BindOk top d := by
  induction h with
  | nil => intro i d e; cases e
  | cons h r ih =>
    intro i d e
    cases i with
    | zero => obtain rfl := Option.some.inj e; exact h
    | succ i => exact ih (i := i) (by simpa using e)
def KwOk (top : Nat → Stmt) (defs : List Dd) (q : Nat × Nat × List Nat) : Prop := ∀ d, defs[q.1]? = some d → ∀ (kV doc pm : Value) (an : Option Addr) (cdv ct : Value) (us ws xs : List Value), us.length = q.2.1 → ws.length = q.2.2.length → fill us q.2.2 ws d.ps.length 0 = some xs →
    bindArgs (PySem.W.fnOf d.nm d.nm (defArgs (top d.at_)) (defBody (top d.at_)) (defScope (top d.at_)) .none kV doc pm an cdv ct) ⟨us, (q.2.2.map fun k => d.ps.getD k Str.empty).zip ws⟩ = pure (d.ps.zip xs)
inductive AllK (top : Nat → Stmt) (defs : List Dd) : List (Nat × Nat × List Nat) → Prop
  | nil : AllK top defs []
  | cons {q : Nat × Nat × List Nat} {qs : List (Nat × Nat × List Nat)} (h : KwOk top defs q) (r : AllK top defs qs) : AllK top defs (q :: qs)
theorem AllK.at_ {top : Nat → Stmt} {defs : List Dd} {qs : List (Nat × Nat × List Nat)} (h : AllK top defs qs) : ∀ q ∈ qs, KwOk top defs q := by
  induction h with
  | nil => intro q hq; cases hq
  | cons h r ih =>
    intro q hq
    rcases List.mem_cons.mp hq with rfl | hq
    · exact h
    · exact ih q hq
def gcOf (defs : List Dd) (gl : List (Str × D)) (free : List Str) (gc : Bool) (kws : List (Nat × Nat × List Nat)) : GC := ⟨defs.map fun d => (d.nm, d.ps), gl.map (·.1), free, gc, kws⟩
def tabOf (defs : List Dd) (gl : List (Str × D)) : Tab := ⟨defs.map (·.fn), gl.map (·.2)⟩
theorem allD_of {top : Nat → Stmt} {defs : List Dd} {gl : List (Str × D)} {free : List Str} {gc : Bool} {kws : List (Nat × Nat × List Nat)} {K : PySem.W.Frag} {h : Heap} {mg : Str → Option Value}
    (hc : defs.all (chkD (gcOf defs gl free gc kws) top) = true) (hb : AllB top defs) (hk : AllK top defs kws) (X : K.In h) (Gm : h.Ns mainGlobals mg)
    (c : He.SaysD (defs.map fun d => He.Fa.glo d.nm) (defs.map (Dd.datum top)) K) (ex : exB gl free gc K = true) : AllD (gcOf defs gl free gc kws) (tabOf defs gl) K mg := by
  obtain ⟨ex, ex3⟩ := and2 ex
  obtain ⟨ex1, ex2⟩ := and2 ex
  refine ⟨fun f nm ps e => ?_, fun i nm d e1 e2 => ?_, fun x hx => ?_, fun hg => ?_⟩
  · have e' : (defs.map fun d => (d.nm, d.ps))[f]? = some (nm, ps) := e
    rw [List.getElem?_map] at e'
    obtain ⟨d, hd, e3⟩ := Option.map_eq_some_iff.mp e'
    cases e3
    obtain ⟨c1, c5⟩ := and2 (List.all_eq_true.mp hc d (List.mem_of_getElem? hd))
    obtain ⟨c1, c4⟩ := and2 c1
    obtain ⟨c1, c3⟩ := and2 c1
    obtain ⟨c1, c2⟩ := and2 c1
    refine ⟨d.N, d.fn, defArgs (top d.at_), defBody (top d.at_), defScope (top d.at_), ?_, dec_t c1, dec_t c2, dec_t c3, ?_, scopeB_ok c4, c5, hb.at_ hd, fun m ks hm => hk.at_ _ hm d hd⟩
    · show (defs.map (·.fn))[f]? = some d.fn
      rw [List.getElem?_map, hd]
      rfl
    · obtain ⟨fd, F⟩ := c.def_ f (d := d.datum top) (by rw [List.getElem?_map, hd]; rfl)
      have hg := c.fact f (f := .glo d.nm) (by rw [List.getElem?_map, hd]; rfl)
      exact ⟨He.ga K d.nm, fd, He.glo_ok X Gm hg, F⟩
  · have e1' : (gl.map (·.1))[i]? = some nm := e1
    have e2' : (gl.map (·.2))[i]? = some d := e2
    rw [List.getElem?_map] at e1' e2'
    obtain ⟨p, hp, rfl⟩ := Option.map_eq_some_iff.mp e1'
    rw [hp] at e2'
    obtain rfl := Option.some.inj e2'
    have h1 := List.all_eq_true.mp ex1 p (List.mem_of_getElem? hp)
    split at h1
    · rename_i u hu
      obtain ⟨v, r, q⟩ := repB_ok _ _ h1
      exact ⟨u, v, PySem.W.mg_of X Gm hu, r, q⟩
    · cases h1
  · exact PySem.W.mg_none_of X Gm (He.eqO_ok (List.all_eq_true.mp ex2 x hx))
  · have hg' : gc = true := hg
    subst hg'
    exact PySem.W.mg_of X Gm (He.eqO_ok ex3)
end Pd
/-! What an evaluation ends with; sizes of integers. -/
namespace Pd
open PySem
def Wp {α : Type} (o : Out α) (P : α → Sto → Prop) : Prop := ∃ a S, o = .ok a S ∧ P a S
theorem wp_ok {α : Type} {a : α} {S : Sto} {P : α → Sto → Prop} : Wp (.ok a S) P ↔ P a S := ⟨fun ⟨_, _, e, h⟩ => by cases e; exact h, fun h => ⟨a, S, rfl, h⟩⟩
theorem wp_bind {α β : Type} {o : Out α} {k : α → Sto → Out β} {P : β → Sto → Prop} : Wp (o.bind k) P ↔ Wp o fun a S => Wp (k a S) P := by
  constructor
  · rintro ⟨b, T, e, h⟩
    obtain ⟨a, S, e1, e2⟩ := bind_ok e
    exact ⟨a, S, e1, b, T, e2, h⟩
  · rintro ⟨a, S, e, b, T, e2, h⟩
    exact ⟨b, T, by rw [e]; exact e2, h⟩
theorem wp_bad {α : Type} {P : α → Sto → Prop} : Wp (.bad : Out α) P ↔ False := ⟨fun h => (by obtain ⟨_, _, e, _⟩ := h; cases e), False.elim⟩
theorem Wp.imp {α : Type} {o : Out α} {P Q : α → Sto → Prop} (h : Wp o P) (hq : ∀ a S, P a S → Q a S) : Wp o Q := let ⟨a, S, e, p⟩ := h; ⟨a, S, e, hq a S p⟩
theorem Wp.of {α : Type} {o : Out α} {P : α → Sto → Prop} {a : α} {S : Sto} (e : o = .ok a S) (h : P a S) : Wp o P := ⟨a, S, e, h⟩
/-- a call: the def's body -/
theorem wp_run {T : Tab} {n f lo : Nat} {fn : Fn} {ds : List D} {S : Sto} {P : D → Sto → Prop} (hf : T.fns[f]? = some fn) (hl : ds.length = fn.np)
    (h : Wp (evB ⟨run T n, T.glo, fun g => match T.fns[g]? with | some fn => fn.np | none => 0, if fn.gc = true then S.length else lo⟩ fn.body (ds.map some ++ List.replicate (fn.nv - fn.np) none) S) fun fl S' => match fl with
      | .nx _ => Wp (keep fn.gc S.length .non S') P
      | .rt d => Wp (keep fn.gc S.length d S') P
      | _ => False) : Wp (run T (n + 1) f lo ds S) P := by
  unfold run
  simp only [hf]
  unfold runFn
  rw [if_pos hl]
  rw [wp_bind]
  refine h.imp fun fl S' q => ?_
  cases fl with
  | nx _ => exact q
  | rt _ => exact q
  | bk _ => exact q.elim
  | ct _ => exact q.elim
theorem wp_keepP {n : Nat} {d : D} {S S' : Sto} {P : D → Sto → Prop} (hp : pureD d = true) (hS : S'.take n = S) (h : P d S) : Wp (keep true n d S') P := by
  unfold keep
  dsimp only
  rw [if_pos hp, hS]
  exact wp_ok.mpr h
theorem take_self {S : Sto} : S.take S.length = S := List.take_length
theorem take_app {S R : Sto} : (S ++ R).take S.length = S := List.take_left
/-! ### sizes -/
def Bt (k : Nat) (i : Int) : Prop := i.natAbs < 2 ^ k
theorem Bt.mono {k l : Nat} {i : Int} (h : Bt k i) (hl : k ≤ l) : Bt l i := Nat.lt_of_lt_of_le h (Nat.pow_le_pow_right (by decide) hl)
theorem Bt.mul {k l : Nat} {i j : Int} (h : Bt k i) (g : Bt l j) : Bt (k + l) (i * j) := by
  unfold Bt at *
  rw [Int.natAbs_mul, Nat.pow_add]
  exact Nat.mul_lt_mul'' h g
theorem Bt.add {k l : Nat} {i j : Int} (h : Bt k i) (g : Bt l j) : Bt (max k l + 1) (i + j) := by
  unfold Bt at *
  have h1 : i.natAbs < 2 ^ max k l := Nat.lt_of_lt_of_le h (Nat.pow_le_pow_right (by decide) (Nat.le_max_left _ _))
  have g1 : j.natAbs < 2 ^ max k l := Nat.lt_of_lt_of_le g (Nat.pow_le_pow_right (by decide) (Nat.le_max_right _ _))
  have := Int.natAbs_add_le i j
  rw [Nat.pow_succ]
  omega
theorem Bt.neg {k : Nat} {i : Int} (h : Bt k i) : Bt k (-i) := by unfold Bt at *; rw [Int.natAbs_neg]; exact h
theorem Bt.sub {k l : Nat} {i j : Int} (h : Bt k i) (g : Bt l j) : Bt (max k l + 1) (i - j) := by rw [Int.sub_eq_add_neg]; exact h.add g.neg
theorem Bt.of {k : Nat} {i : Int} (h : -(2 ^ k : Int) < i) (g : i < 2 ^ k) : Bt k i := by
  unfold Bt
  have e : ((2 ^ k : Nat) : Int) = 2 ^ k := by push_cast; rfl
  omega
theorem Bt.log {k : Nat} {i : Int} (h : Bt k i) : i.natAbs.log2 ≤ k := by
  unfold Bt at h
  by_cases z : i.natAbs = 0
  · rw [z]; simp
  · exact Nat.le_of_lt ((Nat.log2_lt z).mpr h)
theorem Bt.c {k : Nat} {i : Int} (h : decide (i.natAbs < 2 ^ k) = true) : Bt k i := show i.natAbs < 2 ^ k from of_decide_eq_true h
theorem mulOk {k l : Nat} {i j : Int} (h : Bt k i) (g : Bt l j) (hl : k + l < 1000000) : i.natAbs.log2 + j.natAbs.log2 < 1000000 := by
  have := h.log
  have := g.log
  omega
theorem divOk {k : Nat} {j : Int} (hj : j ≠ 0) (g : Bt k j) (hl : k < 9000) : j ≠ 0 ∧ j.natAbs.log2 < 9000 := ⟨hj, Nat.lt_of_le_of_lt g.log hl⟩
theorem wp_mul {k l : Nat} {i j : Int} {S : Sto} {P : D → Sto → Prop} (h : Bt k i) (g : Bt l j) (hl : k + l < 1000000) (p : P (.int (i * j)) S) : Wp (binop .mul (.int i) (.int j) S) P := by
  unfold binop
  dsimp only
  rw [if_pos (mulOk h g hl)]
  exact wp_ok.mpr p
theorem fmod_pos {i j : Int} (h : 0 < j) : 0 ≤ i.fmod j ∧ i.fmod j < j := ⟨Int.fmod_nonneg_of_pos i h, Int.fmod_lt_of_pos i h⟩
end Pd
/-! The evaluator's equations, each by the head of what is evaluated. -/
namespace Pd
open PySem
def getS (o : Option (Option D)) (S : Sto) : Out D := match o with
  | some (some d) => .ok d S
  | _ => .bad
def getO (o : Option D) (S : Sto) : Out D := match o with
  | some d => .ok d S
  | none => .bad
def mkTup (ds : List D) (S : Sto) : Out D := if ds.length ≤ sizeLine then .ok (.tup ds) S else .bad
def mkLst (ds : List D) (S : Sto) : Out D := if ds.length ≤ sizeLine then .ok (.ref S.length) (S ++ [.lst ds]) else .bad
def negD (x : D) (S : Sto) : Out D := match x with
  | .int i => .ok (.int (-i)) S
  | _ => .bad
def notD (o : Option Bool) (S : Sto) : Out D := match o with
  | some b => .ok (.bl (!b)) S
  | none => .bad
def okB (o : Option Bool) (S : Sto) : Out Bool := match o with
  | some b => .ok b S
  | none => .bad
def ite' {α : Type} (k : Bool) (a b : Out α) : Out α := if k = true then a else b
def mkDic (ks : List Str) (n : Nat) (ds : List D) (S' : Sto) : Out D := match S'[n]? with
  | some (.dic []) => if ks.length = ds.length then .ok (.ref n) (S'.set n (.dic (ks.zip ds))) else .bad
  | _ => .bad
def okI (d : D) (S : Sto) : Out (Option Int) := match d with
  | .int i => .ok (some i) S
  | _ => .bad
def nxO (o : Option Env) (S : Sto) : Out Fl := match o with
  | some σ => .ok (.nx σ) S
  | none => .bad
def nxS (o : Option Sto) (σ : Env) : Out Fl := match o with
  | some S => .ok (.nx σ) S
  | none => .bad
def mkNon (o : Option Sto) : Out D := match o with
  | some S => .ok .non S
  | none => .bad
def mkDic' := mkDic
theorem mkDic_eq {ks : List Str} {n : Nat} {ds : List D} {S : Sto} (h : S[n]? = some (.dic [])) (hl : ks.length = ds.length) : mkDic ks n ds S = .ok (.ref n) (S.set n (.dic (ks.zip ds))) := by
  unfold mkDic
  rw [h]
  exact if_pos hl
section
variable {C : Cx} {σ : Env} {S : Sto}
theorem q_slot {i : Nat} : evE C (.slot i) σ S = getS σ[i]? S := rfl
theorem q_cst {d : D} : evE C (.cst d) σ S = .ok d S := rfl
theorem q_glo {i : Nat} : evE C (.glo i) σ S = getO C.glo[i]? S := rfl
theorem q_tup {es : List IE} : evE C (.tup es) σ S = (evs C es σ S).bind mkTup := rfl
theorem q_lst {es : List IE} : evE C (.lst es) σ S = (evs C es σ S).bind mkLst := rfl
theorem q_dic {ks : List Str} {es : List IE} : evE C (.dic ks es) σ S = (evs C es σ (S ++ [.dic []])).bind (mkDic ks S.length) := rfl
theorem q_bin {op : BOp} {a b : IE} : evE C (.bin op a b) σ S = (evE C a σ S).bind fun x S => (evE C b σ S).bind fun y S => binop op x y S := rfl
theorem q_neg {a : IE} : evE C (.neg a) σ S = (evE C a σ S).bind negD := rfl
theorem q_not {a : IE} : evE C (.not a) σ S = (evE C a σ S).bind fun d S => notD (truth d S) S := rfl
theorem q_cmp {op : COp} {a b : IE} : evE C (.cmp op a b) σ S = (evE C a σ S).bind fun x S => (evE C b σ S).bind fun y S => .ofB (compOp op x y S) S := rfl
theorem q_ifx {t : IT} {a b : IE} : evE C (.ifx t a b) σ S = (evT C t σ S).bind fun k S => ite' k (evE C a σ S) (evE C b σ S) := rfl
theorem q_isi {a : IE} {ts : List Ty} : evE C (.isi a ts) σ S = (evE C a σ S).bind fun x S => .ofB (isiD x ts S) S := rfl
theorem q_bi {f : Bi} {es : List IE} : evE C (.bi f es) σ S = (evs C es σ S).bind fun ds S => bifn f ds S := rfl
theorem q_call {f : Nat} {es : List IE} : evE C (.call f es) σ S = (evs C es σ S).bind fun ds S => C.cal f C.lo ds S := rfl
theorem q_callk {f : Nat} {es ws : List IE} {ks : List Nat} : evE C (.callk f es ks ws) σ S = (evs C es σ S).bind fun ds S => (evs C ws σ S).bind fun us S => match fill ds ks us (C.np f) 0 with
    | some xs => C.cal f C.lo xs S
    | none => .bad := rfl
theorem q_idx {a i : IE} : evE C (.idx a i) σ S = (evE C a σ S).bind fun x S => (evE C i σ S).bind fun y S => index x y S := rfl
theorem q_slc {a : IE} {lo hi : Option IE} : evE C (.slc a lo hi) σ S = (evE C a σ S).bind fun x S => (evO C lo σ S).bind fun l S => (evO C hi σ S).bind fun h S => slice x l h S := rfl
theorem q_append {a e : IE} : evE C (.append a e) σ S = (evE C a σ S).bind fun x S => ite' (isL S x) ((evE C e σ S).bind fun y S => appendD C.lo x y S) .bad := rfl
theorem q_extend {a e : IE} : evE C (.extend a e) σ S = (evE C a σ S).bind fun x S => ite' (isL S x) ((evE C e σ S).bind fun y S => extendD C.lo x y S) .bad := rfl
theorem q_and {es : List IE} : evE C (.and es) σ S = evAnd C es σ S := rfl
theorem q_or {es : List IE} : evE C (.or es) σ S = evOr C es σ S := rfl
def lcTurn (C : Cx) (own : List Nat) (tg : Tg) (cs : List IT) (e : IE) (σ : Env) (d : D) (S : Sto) : Out (Option D) := match asg tg d (wipeE σ own) with
        | some σ => (evC C cs σ S).bind fun b S => if b = true then (evE C e σ S).bind fun y S => .ok (some y) S else .ok none S
        | none => .bad
theorem lc_eval {own : List Nat} {tg : Tg} {k : SK} {es : List IE} {cs : List IT} {e : IE} {S1 : Sto} {ds : List D} {src : Src} (h1 : evs C es σ S = .ok ds S1) (h2 : mkSrc S1 k ds = some src) :
    evE C (.lc own tg k es cs e) σ S = lcL src S1.length (lcTurn C own tg cs e σ) (src.size S1 + 1) 0 (S1 ++ [SO.lst []]) := by
  rw [show evE C (.lc own tg k es cs e) σ S = (evs C es σ S).bind fun ds S => match mkSrc S k ds with
    | some src => lcL src S.length (lcTurn C own tg cs e σ) (src.size S + 1) 0 (S ++ [SO.lst []])
    | none => .bad from rfl, h1]
  show (match mkSrc S1 k ds with
    | some src => lcL src S1.length (lcTurn C own tg cs e σ) (src.size S1 + 1) 0 (S1 ++ [SO.lst []])
    | none => Out.bad) = _
  rw [h2]
/-- a turn without conditions, the value told -/
theorem turn_all {own : List Nat} {tg : Tg} {e : IE} {d y : D} {σ1 : Env} {S1 : Sto} (h1 : asg tg d (wipeE σ own) = some σ1) (h2 : evE C e σ1 S = .ok y S1) : lcTurn C own tg [] e σ d S = .ok (some y) S1 := by
  unfold lcTurn
  rw [h1]
  show Out.bind (evE C e σ1 S) _ = _
  rw [h2]
  rfl
theorem q_nil : evs C [] σ S = .ok [] S := rfl
theorem q_cons {e : IE} {r : List IE} : evs C (e :: r) σ S = (evE C e σ S).bind fun d S => (evs C r σ S).bind fun ds S => .ok (d :: ds) S := rfl
theorem q_none : evO C none σ S = .ok none S := rfl
theorem q_some {e : IE} : evO C (some e) σ S = (evE C e σ S).bind okI := rfl
def andK (C : Cx) (r : List IE) (σ : Env) (d : D) (S : Sto) : Out D := match d with
  | .bl true => evAnd C r σ S
  | .bl false => .ok (.bl false) S
  | _ => .bad
def orK (C : Cx) (r : List IE) (σ : Env) (d : D) (S : Sto) : Out D := match d with
  | .bl false => evOr C r σ S
  | .bl true => .ok (.bl true) S
  | _ => .bad
theorem q_and1 {e : IE} : evAnd C [e] σ S = evE C e σ S := rfl
theorem q_and2 {e f : IE} {r : List IE} : evAnd C (e :: f :: r) σ S = (evE C e σ S).bind (andK C (f :: r) σ) := rfl
theorem q_andT {r : List IE} : andK C r σ (.bl true) S = evAnd C r σ S := rfl
theorem q_andF {r : List IE} : andK C r σ (.bl false) S = .ok (.bl false) S := rfl
theorem q_andB {r : List IE} {b : Bool} : andK C r σ (.bl b) S = ite' b (evAnd C r σ S) (.ok (.bl false) S) := by cases b <;> rfl
theorem q_or1 {e : IE} : evOr C [e] σ S = evE C e σ S := rfl
theorem q_or2 {e f : IE} {r : List IE} : evOr C (e :: f :: r) σ S = (evE C e σ S).bind (orK C (f :: r) σ) := rfl
theorem q_orB {r : List IE} {b : Bool} : orK C r σ (.bl b) S = ite' b (.ok (.bl true) S) (evOr C r σ S) := by cases b <;> rfl
theorem q_tval {e : IE} : evT C (.val e) σ S = (evE C e σ S).bind fun d S => okB (truth d S) S := rfl
theorem q_tnot {a : IT} : evT C (.not a) σ S = (evT C a σ S).bind fun b S => .ok (!b) S := rfl
theorem q_tand {es : List IT} : evT C (.and es) σ S = evAndT C es σ S := rfl
theorem q_tor {es : List IT} : evT C (.or es) σ S = evOrT C es σ S := rfl
theorem q_tcmp {op : COp} {a b : IE} : evT C (.cmp op a b) σ S = (evE C a σ S).bind fun x S => (evE C b σ S).bind fun y S => okB (compOp op x y S) S := rfl
theorem q_tand1 {e : IT} : evAndT C [e] σ S = evT C e σ S := rfl
theorem q_tand2 {e f : IT} {r : List IT} : evAndT C (e :: f :: r) σ S = (evT C e σ S).bind fun b S => ite' b (evAndT C (f :: r) σ S) (.ok false S) := rfl
theorem q_tor1 {e : IT} : evOrT C [e] σ S = evT C e σ S := rfl
theorem q_tor2 {e f : IT} {r : List IT} : evOrT C (e :: f :: r) σ S = (evT C e σ S).bind fun b S => ite' b (.ok true S) (evOrT C (f :: r) σ S) := rfl
theorem q_cnil : evC C [] σ S = .ok true S := rfl
theorem q_ccons {e : IT} {r : List IT} : evC C (e :: r) σ S = (evT C e σ S).bind fun b S => ite' b (evC C r σ S) (.ok false S) := rfl
theorem q_set {t : Tg} {e : IE} : evS C (.set t e) σ S = (evE C e σ S).bind fun d S => nxO (asg t d σ) S := rfl
theorem q_par {is : List Nat} {es : List IE} : evS C (.par is es) σ S = (evs C es σ S).bind fun ds S => nxO (puts σ is ds) S := rfl
theorem q_setix {o i e : IE} : evS C (.setix o i e) σ S = (evE C e σ S).bind fun z S => (evE C o σ S).bind fun x S => (evE C i σ S).bind fun y S => nxS (setixD C.lo x y z S) σ := rfl
theorem q_ex {e : IE} : evS C (.ex e) σ S = (evE C e σ S).bind fun _ S => .ok (.nx σ) S := rfl
theorem q_ret {e : IE} : evS C (.ret e) σ S = (evE C e σ S).bind fun d S => .ok (.rt d) S := rfl
theorem q_retN : evS C .retN σ S = .ok (.rt .non) S := rfl
theorem q_iff {c : IT} {a b : List IS} : evS C (.iff c a b) σ S = (evT C c σ S).bind fun k S => ite' k (evB C a σ S) (evB C b σ S) := rfl
theorem q_pass : evS C .pass σ S = .ok (.nx σ) S := rfl
theorem q_brk : evS C .brk σ S = .ok (.bk σ) S := rfl
theorem q_cont : evS C .cont σ S = .ok (.ct σ) S := rfl
theorem q_bnil : evB C [] σ S = .ok (.nx σ) S := rfl
def loopF (C : Cx) (t : Tg) (body : List IS) (d : D) (σ : Env) (S : Sto) : Out Fl := match asg t d σ with
  | some σ => evB C body σ S
  | none => .bad
theorem loop_eval {t : Tg} {k : SK} {es : List IE} {body : List IS} {S1 : Sto} {ds : List D} {src : Src} (h1 : evs C es σ S = .ok ds S1) (h2 : mkSrc S1 k ds = some src) :
    evS C (.loop t k es body) σ S = forL src (loopF C t body) (src.size S1 + 1) 0 σ S1 := by
  rw [show evS C (.loop t k es body) σ S = (evs C es σ S).bind fun ds S => match mkSrc S k ds with
    | some src => forL src (loopF C t body) (src.size S + 1) 0 σ S
    | none => .bad from rfl, h1]
  show (match mkSrc S1 k ds with
    | some src => forL src (loopF C t body) (src.size S1 + 1) 0 σ S1
    | none => Out.bad) = _
  rw [h2]
/-- behind a statement -/
def nextB (C : Cx) (r : List IS) (P : Fl → Sto → Prop) (fl : Fl) (S : Sto) : Prop := match fl with
  | .nx σ => Wp (evB C r σ S) P
  | fl => P fl S
theorem wp_b {s : IS} {r : List IS} {P : Fl → Sto → Prop} (h : Wp (evS C s σ S) (nextB C r P)) : Wp (evB C (s :: r) σ S) P := by
  show Wp ((evS C s σ S).bind _) P
  rw [wp_bind]
  refine h.imp fun fl S q => ?_
  cases fl with
  | nx σ => exact q
  | rt d => exact wp_ok.mpr q
  | bk _ => exact wp_ok.mpr q
  | ct _ => exact wp_ok.mpr q
theorem q_nextN {r : List IS} {P : Fl → Sto → Prop} : nextB C r P (.nx σ) S = Wp (evB C r σ S) P := rfl
theorem q_nextR {r : List IS} {P : Fl → Sto → Prop} {d : D} : nextB C r P (.rt d) S = P (.rt d) S := rfl
theorem q_nextK {r : List IS} {P : Fl → Sto → Prop} : nextB C r P (.bk σ) S = P (.bk σ) S := rfl
theorem q_nextC {r : List IS} {P : Fl → Sto → Prop} : nextB C r P (.ct σ) S = P (.ct σ) S := rfl
end
section
variable {S : Sto} {i j : Int} {a b : D} {x y : Str} {p q : Bool}
theorem q_bok {α β : Type} {a : α} {k : α → Sto → Out β} : (Out.ok a S).bind k = k a S := rfl
theorem q_getS {d : D} : getS (some (some d)) S = .ok d S := rfl
theorem q_getO {d : D} : getO (some d) S = .ok d S := rfl
theorem q_t0 : mkTup [] S = .ok (.tup []) S := rfl
theorem q_t1 : mkTup [a] S = .ok (.tup [a]) S := if_pos (by simp only [List.length_cons, List.length_nil, sizeLine_eq]; decide)
theorem q_t2 : mkTup [a, b] S = .ok (.tup [a, b]) S := if_pos (by simp only [List.length_cons, List.length_nil, sizeLine_eq]; decide)
theorem q_t3 {c : D} : mkTup [a, b, c] S = .ok (.tup [a, b, c]) S := if_pos (by simp only [List.length_cons, List.length_nil, sizeLine_eq]; decide)
theorem q_t4 {c d : D} : mkTup [a, b, c, d] S = .ok (.tup [a, b, c, d]) S := if_pos (by simp only [List.length_cons, List.length_nil, sizeLine_eq]; decide)
theorem mkLst_eq {ds : List D} (h : ds.length ≤ sizeLine) : mkLst ds S = .ok (.ref S.length) (S ++ [.lst ds]) := if_pos h
theorem q_l0 : mkLst [] S = .ok (.ref S.length) (S ++ [.lst []]) := rfl
theorem q_l1 : mkLst [a] S = .ok (.ref S.length) (S ++ [.lst [a]]) := if_pos (by simp only [List.length_cons, List.length_nil, sizeLine_eq]; decide)
theorem q_l2 : mkLst [a, b] S = .ok (.ref S.length) (S ++ [.lst [a, b]]) := if_pos (by simp only [List.length_cons, List.length_nil, sizeLine_eq]; decide)
theorem q_l3 {c : D} : mkLst [a, b, c] S = .ok (.ref S.length) (S ++ [.lst [a, b, c]]) := if_pos (by simp only [List.length_cons, List.length_nil, sizeLine_eq]; decide)
theorem q_l4 {c d : D} : mkLst [a, b, c, d] S = .ok (.ref S.length) (S ++ [.lst [a, b, c, d]]) := if_pos (by simp only [List.length_cons, List.length_nil, sizeLine_eq]; decide)
theorem q_l5 {c d e : D} : mkLst [a, b, c, d, e] S = .ok (.ref S.length) (S ++ [.lst [a, b, c, d, e]]) := if_pos (by simp only [List.length_cons, List.length_nil, sizeLine_eq]; decide)
theorem q_l6 {c d e f : D} : mkLst [a, b, c, d, e, f] S = .ok (.ref S.length) (S ++ [.lst [a, b, c, d, e, f]]) := if_pos (by simp only [List.length_cons, List.length_nil, sizeLine_eq]; decide)
theorem q_l8 {c d e f g h : D} : mkLst [a, b, c, d, e, f, g, h] S = .ok (.ref S.length) (S ++ [.lst [a, b, c, d, e, f, g, h]]) := if_pos (by simp only [List.length_cons, List.length_nil, sizeLine_eq]; decide)
theorem q_negI : negD (.int i) S = .ok (.int (-i)) S := rfl
theorem q_notS : notD (some p) S = .ok (.bl (!p)) S := rfl
theorem q_okB : okB (some p) S = .ok p S := rfl
theorem q_okI : okI (.int i) S = .ok (some i) S := rfl
theorem q_nxO {σ : Env} : nxO (some σ) S = .ok (.nx σ) S := rfl
theorem q_nxS {σ : Env} : nxS (some S) σ = .ok (.nx σ) S := rfl
theorem q_mkNon : mkNon (some S) = .ok .non S := rfl
theorem q_iteT {α : Type} {u v : Out α} : ite' true u v = u := rfl
theorem q_iteF {α : Type} {u v : Out α} : ite' false u v = v := rfl
theorem q_ofB : Out.ofB (some p) S = .ok (.bl p) S := rfl
theorem q_addI : binop .add (.int i) (.int j) S = .ok (.int (i + j)) S := rfl
theorem q_subI : binop .sub (.int i) (.int j) S = .ok (.int (i - j)) S := rfl
theorem q_mulI (h : i.natAbs.log2 + j.natAbs.log2 < 1000000) : binop .mul (.int i) (.int j) S = .ok (.int (i * j)) S := if_pos h
theorem q_fdivI (h : j ≠ 0) (g : j.natAbs.log2 < 9000) : binop .fdiv (.int i) (.int j) S = .ok (.int (i.fdiv j)) S := if_pos ⟨h, g⟩
theorem q_modI (h : j ≠ 0) : binop .mod (.int i) (.int j) S = .ok (.int (i.fmod j)) S := if_pos h
theorem q_powI (h : 0 ≤ j) (g : j ≤ 1000000) (k : i.natAbs < 2 ^ 64) : binop .pow (.int i) (.int j) S = .ok (.int (i ^ j.toNat)) S := if_pos ⟨h, g, k⟩
theorem q_addT {xs ys : List D} (h : xs.length + ys.length ≤ sizeLine) : binop .add (.tup xs) (.tup ys) S = .ok (.tup (xs ++ ys)) S := if_pos h
theorem q_eqI : compOp .eq (.int i) (.int j) S = some (decide (i = j)) := rfl
theorem q_neI : compOp .ne (.int i) (.int j) S = some (!decide (i = j)) := rfl
theorem q_ltI : compOp .lt (.int i) (.int j) S = some (decide (i < j)) := rfl
theorem q_leI : compOp .le (.int i) (.int j) S = some (decide (i ≤ j)) := rfl
theorem q_gtI : compOp .gt (.int i) (.int j) S = some (decide (j < i)) := rfl
theorem q_geI : compOp .ge (.int i) (.int j) S = some (decide (j ≤ i)) := rfl
theorem q_eqB : compOp .eq (.bl p) (.bl q) S = some (decide (p = q)) := rfl
theorem q_neB : compOp .ne (.bl p) (.bl q) S = some (!decide (p = q)) := rfl
theorem q_eqS : compOp .eq (.str x) (.str y) S = some (decide (x = y)) := rfl
theorem q_neS : compOp .ne (.str x) (.str y) S = some (!decide (x = y)) := rfl
theorem q_isB : compOp .is (.bl p) (.bl q) S = some (decide (p = q)) := rfl
theorem q_isnB : compOp .isnot (.bl p) (.bl q) S = some (!decide (p = q)) := rfl
theorem q_isN : compOp .is a .non S = isNone a := by cases a <;> rfl
theorem q_isnN : compOp .isnot a .non S = (isNone a).map (!·) := by cases a <;> rfl
theorem q_truB : truth (.bl p) S = some p := rfl
theorem q_truI : truth (.int i) S = some (i != 0) := rfl
theorem q_isiI {ts : List Ty} : isiD (.int i) ts S = some (ts.any fun u => Ty.int.sub u) := rfl
theorem q_isiB {ts : List Ty} : isiD (.bl p) ts S = some (ts.any fun u => Ty.bool.sub u) := rfl
theorem q_isiS {ts : List Ty} : isiD (.str x) ts S = some (ts.any fun u => Ty.str.sub u) := rfl
theorem q_isiT {xs : List D} {ts : List Ty} : isiD (.tup xs) ts S = some (ts.any fun u => Ty.tuple.sub u) := rfl
theorem q_isiN {ts : List Ty} : isiD .non ts S = some false := rfl
theorem q_lenT {xs : List D} : bifn .len [.tup xs] S = .ok (.int xs.length) S := rfl
theorem q_gcd : bifn .gcd [.int i, .int j] S = .ok (.int (gcdI i j)) S := rfl
theorem q_abs : bifn .abs [.int i] S = .ok (.int (if i < 0 then -i else i)) S := rfl
theorem q_max : bifn .max [.int i, .int j] S = .ok (.int (if j > i then j else i)) S := rfl
theorem q_min : bifn .min [.int i, .int j] S = .ok (.int (if j < i then j else i)) S := rfl
theorem q_int : bifn .int [.int i] S = .ok (.int i) S := rfl
theorem q_tupT {xs : List D} : bifn .tuple [.tup xs] S = .ok (.tup xs) S := rfl
theorem q_listT {xs : List D} : bifn .list [.tup xs] S = .ok (.ref S.length) (S ++ [.lst xs]) := rfl
theorem q_ixT {xs : List D} : index (.tup xs) (.int i) S = getO (L2.atI xs i) S := by
  show (match L2.atI xs i with | some x => Out.ok x S | none => Out.bad) = _
  cases L2.atI xs i <;> rfl
theorem q_ixL {n : Nat} {xs : List D} (h : items S (.ref n) = some xs) : index (.ref n) (.int i) S = getO (L2.atI xs i) S := by
  unfold index
  dsimp only
  rw [h]
  show (match L2.atI xs i with | some x => Out.ok x S | none => Out.bad) = _
  cases L2.atI xs i <;> rfl
theorem lenL {n : Nat} {xs : List D} (h : items S (.ref n) = some xs) : bifn .len [.ref n] S = .ok (.int xs.length) S := by
  show bLen [.ref n] S = _
  unfold bLen
  dsimp only
  rw [h]
theorem ixD {n : Nat} {kvs : List (Str × D)} {k : Str} {d : D} (h : S[n]? = some (.dic kvs)) (g : dget k kvs = some d) : index (.ref n) (.str k) S = .ok d S := by
  unfold index
  dsimp only
  rw [h]
  dsimp only
  rw [g]
theorem q_at0 {α : Type} {a : α} {r : List α} : L2.atI (a :: r) 0 = some a := by
  unfold L2.atI L2.ixN
  rw [if_pos (by decide), if_pos (by rw [List.length_cons]; omega)]
  rfl
theorem q_at1 {α : Type} {a b : α} {r : List α} : L2.atI (a :: b :: r) 1 = some b := by
  unfold L2.atI L2.ixN
  rw [if_pos (by decide), if_pos (by simp only [List.length_cons]; omega)]
  rfl
theorem q_at2 {α : Type} {a b c : α} {r : List α} : L2.atI (a :: b :: c :: r) 2 = some c := by
  unfold L2.atI L2.ixN
  rw [if_pos (by decide), if_pos (by simp only [List.length_cons]; omega)]
  rfl
theorem q_at3 {α : Type} {a b c d : α} {r : List α} : L2.atI (a :: b :: c :: d :: r) 3 = some d := by
  unfold L2.atI L2.ixN
  rw [if_pos (by decide), if_pos (by simp only [List.length_cons]; omega)]
  rfl
theorem q_at4 {α : Type} {a b c d e : α} {r : List α} : L2.atI (a :: b :: c :: d :: e :: r) 4 = some e := by
  unfold L2.atI L2.ixN
  rw [if_pos (by decide), if_pos (by simp only [List.length_cons]; omega)]
  rfl
theorem q_nm {σ : Env} {k : Nat} {d : D} (h : k < σ.length) : asg (.nm k) d σ = some (σ.set k (some d)) := by
  unfold asg put
  exact if_pos h
theorem q_tp {σ : Env} {ts : List Tg} {ds : List D} : asg (.tp ts) (.tup ds) σ = asgs ts ds σ := by unfold asg; rfl
theorem q_asn {σ : Env} : asgs [] [] σ = some σ := by unfold asgs; rfl
theorem q_asc {σ : Env} {k : Nat} {d : D} {ts : List Tg} {ds : List D} (h : k < σ.length) : asgs (.nm k :: ts) (d :: ds) σ = asgs ts ds (σ.set k (some d)) := by
  rw [asgs, q_nm h]
theorem q_pn {σ : Env} : puts σ [] [] = some σ := rfl
theorem q_pc {σ : Env} {k : Nat} {d : D} {ks : List Nat} {ds : List D} (h : k < σ.length) : puts σ (k :: ks) (d :: ds) = puts (σ.set k (some d)) ks ds := by
  show (match put σ k d with | some σ => puts σ ks ds | none => none) = _
  unfold put
  rw [if_pos h]
end
end Pd
/-! The helpers that all laws share. -/
namespace Pd
open PySem
def bMixed : List IS := [.set (.nm 0) (.bin .mod (.bi .int [.slot 0]) (.cst (.int 2147483647))), .ret (.bin .mod (.bin .mul (.bin .mod (.bin .add (.bin .add (.bin .mul (.slot 0) (.bin .add (.cst (.int 48271)) (.bin .mul (.bin .mul (.cst (.int 2)) (.slot 1)) (.slot 1)))) (.bin .mul (.cst (.int 69621)) (.slot 1))) (.cst (.int 11))) (.cst (.int 2147483647))) (.cst (.int 69621))) (.cst (.int 2147483629)))]
def fMixed : Fn := ⟨2, 2, true, bMixed⟩
theorem mixed_ok {T : Tab} {n f lo : Nat} {S : Sto} {c k : Int} (hf : T.fns[f]? = some fMixed) (hk : Bt 100 k) : Wp (run T (n + 1) f lo [.int c, .int k] S) fun d S' => S' = S ∧ ∃ v, d = .int v ∧ 0 ≤ v ∧ v < 2147483629 := by
  refine wp_run hf rfl (wp_b ?_)
  have h0 := fmod_pos (i := c) (j := 2147483647) (by decide)
  have b0 : Bt 31 (c.fmod 2147483647) := .of (by omega) (by omega)
  have c1 : Bt 31 (48271 : Int) := .c rfl
  have c2 : Bt 31 (2 : Int) := .c rfl
  have c3 : Bt 31 (69621 : Int) := .c rfl
  have m1 := mulOk c2 hk (by decide)
  have m2 := mulOk (c2.mul hk) hk (by decide)
  have m3 := mulOk b0 (c1.add ((c2.mul hk).mul hk)) (by decide)
  have m4 := mulOk c3 hk (by decide)
  simp only [q_slot, q_cst, q_glo, q_tup, q_lst, q_dic, q_bin, q_neg, q_not, q_cmp, q_ifx, q_isi, q_bi, q_call, q_callk, q_idx, q_slc, q_append, q_extend, q_and, q_or, q_nil, q_cons, q_none, q_some, q_and1, q_and2, q_andT, q_andF, q_andB, q_or1, q_or2, q_orB, q_tval, q_tnot, q_tand, q_tor, q_tcmp, q_tand1, q_tand2, q_tor1, q_tor2, q_cnil, q_ccons, q_set, q_par, q_setix, q_ex, q_ret, q_retN, q_iff, q_pass, q_brk, q_cont, q_bnil, q_nextN, q_nextR, q_nextK, q_nextC, q_bok, q_getS, q_getO, q_t0, q_t1, q_t2, q_t3, q_t4, q_l0, q_l1, q_l2, q_l3, q_l4, q_l5, q_l6, q_l8, q_negI, q_notS, q_okB, q_okI, q_nxO, q_nxS, q_mkNon, q_iteT, q_iteF, q_ofB, q_addI, q_subI, q_mulI, q_fdivI, q_modI, q_powI, q_addT, q_eqI, q_neI, q_ltI, q_leI, q_gtI, q_geI, q_eqB, q_neB, q_eqS, q_neS, q_isB, q_isnB, q_isN, q_isnN, q_truB, q_truI, q_isiI, q_isiB, q_isiS, q_isiT, q_isiN, q_lenT, q_gcd, q_abs, q_max, q_min, q_int, q_tupT, q_listT, q_ixT, q_ixL, q_at0, q_at1, q_at2, q_at3, q_at4, q_nm, q_tp, q_asn, q_asc, q_pn, q_pc, wp_bind, wp_ok, List.map_cons, List.map_nil, List.replicate, List.cons_append, List.nil_append, List.append_nil, List.getElem?_cons_zero, List.getElem?_cons_succ, List.set_cons_zero, List.set_cons_succ, List.length_cons, List.length_nil, if_true, if_false, Nat.reduceAdd, Nat.reduceSub, Nat.reduceLT, Nat.reduceLeDiff, Nat.zero_add, Nat.lt_add_one, Nat.zero_lt_succ, decide_true, decide_false, Bool.not_true, Bool.not_false, ne_eq, not_false_eq_true, not_true_eq_false, Int.reduceEq, Int.reduceNe, Int.reduceLT, Int.reduceLE, Int.reduceNeg, Int.reduceToNat, Nat.reducePow, Nat.reduceEqDiff, Bool.false_eq_true, List.any_cons, List.any_nil, Bool.or_false, Bool.or_true, Bool.false_or, Bool.true_or, Ty.sub, Int.cast_ofNat_Int, Int.natCast_zero, Int.natCast_one, eq_self, fMixed]
  refine wp_b ?_
  have h1 := fmod_pos (i := (c.fmod 2147483647 * (48271 + 2 * k * k) + 69621 * k + 11)) (j := 2147483647) (by decide)
  have b1 : Bt 31 ((c.fmod 2147483647 * (48271 + 2 * k * k) + 69621 * k + 11).fmod 2147483647) := .of (by omega) (by omega)
  have m5 := mulOk b1 c3 (by decide)
  simp only [q_slot, q_cst, q_glo, q_tup, q_lst, q_dic, q_bin, q_neg, q_not, q_cmp, q_ifx, q_isi, q_bi, q_call, q_callk, q_idx, q_slc, q_append, q_extend, q_and, q_or, q_nil, q_cons, q_none, q_some, q_and1, q_and2, q_andT, q_andF, q_andB, q_or1, q_or2, q_orB, q_tval, q_tnot, q_tand, q_tor, q_tcmp, q_tand1, q_tand2, q_tor1, q_tor2, q_cnil, q_ccons, q_set, q_par, q_setix, q_ex, q_ret, q_retN, q_iff, q_pass, q_brk, q_cont, q_bnil, q_nextN, q_nextR, q_nextK, q_nextC, q_bok, q_getS, q_getO, q_t0, q_t1, q_t2, q_t3, q_t4, q_l0, q_l1, q_l2, q_l3, q_l4, q_l5, q_l6, q_l8, q_negI, q_notS, q_okB, q_okI, q_nxO, q_nxS, q_mkNon, q_iteT, q_iteF, q_ofB, q_addI, q_subI, q_mulI, q_fdivI, q_modI, q_powI, q_addT, q_eqI, q_neI, q_ltI, q_leI, q_gtI, q_geI, q_eqB, q_neB, q_eqS, q_neS, q_isB, q_isnB, q_isN, q_isnN, q_truB, q_truI, q_isiI, q_isiB, q_isiS, q_isiT, q_isiN, q_lenT, q_gcd, q_abs, q_max, q_min, q_int, q_tupT, q_listT, q_ixT, q_ixL, q_at0, q_at1, q_at2, q_at3, q_at4, q_nm, q_tp, q_asn, q_asc, q_pn, q_pc, wp_bind, wp_ok, List.map_cons, List.map_nil, List.replicate, List.cons_append, List.nil_append, List.append_nil, List.getElem?_cons_zero, List.getElem?_cons_succ, List.set_cons_zero, List.set_cons_succ, List.length_cons, List.length_nil, if_true, if_false, Nat.reduceAdd, Nat.reduceSub, Nat.reduceLT, Nat.reduceLeDiff, Nat.zero_add, Nat.lt_add_one, Nat.zero_lt_succ, decide_true, decide_false, Bool.not_true, Bool.not_false, ne_eq, not_false_eq_true, not_true_eq_false, Int.reduceEq, Int.reduceNe, Int.reduceLT, Int.reduceLE, Int.reduceNeg, Int.reduceToNat, Nat.reducePow, Nat.reduceEqDiff, Bool.false_eq_true, List.any_cons, List.any_nil, Bool.or_false, Bool.or_true, Bool.false_or, Bool.true_or, Ty.sub, Int.cast_ofNat_Int, Int.natCast_zero, Int.natCast_one, eq_self, m1, m2, m3, m4, m5]
  exact wp_keepP rfl take_self ⟨rfl, _, rfl, fmod_pos (by decide)⟩
/-- the state that a law draws from, and what stands behind it -/
structure Bs where
  ns : List D
  cells : List Int
  lefts : List Int
  t : Nat
def Bs.sto (b : Bs) : Sto := [.frz b.ns, .lst [], .lst (b.cells.map .int), .dic [("cells", .ref 2), ("lefts", .ref 4), ("at", .int b.t)], .lst (b.lefts.map .int)]
def Bs.ok (b : Bs) : Prop := b.lefts.length = b.cells.length ∧ 0 < b.cells.length
theorem dg_cells {a b c : D} : dget "cells" [("cells", a), ("lefts", b), ("at", c)] = some a := rfl
theorem dg_lefts {a b c : D} : dget "lefts" [("cells", a), ("lefts", b), ("at", c)] = some b := rfl
theorem dg_at {a b c : D} : dget "at" [("cells", a), ("lefts", b), ("at", c)] = some c := rfl
theorem dp_at {a b c d : D} : dput "at" d [("cells", a), ("lefts", b), ("at", c)] = some ([("cells", a), ("lefts", b), ("at", d)] : List (Str × D)) := rfl
theorem ixN_in {n : Nat} {i : Int} (h0 : 0 ≤ i) (h1 : i < n) : L2.ixN n i = some i.toNat := by unfold L2.ixN; rw [if_pos h0, if_pos h1]
theorem atI_in {α : Type} {xs : List α} {i : Int} (h0 : 0 ≤ i) (h1 : i < xs.length) : ∃ x ∈ xs, L2.atI xs i = some x := by
  have hl : i.toNat < xs.length := by omega
  refine ⟨xs[i.toNat], List.getElem_mem hl, ?_⟩
  unfold L2.atI
  rw [ixN_in h0 h1]
  exact List.getElem?_eq_getElem hl
theorem atI_map {α β : Type} {f : α → β} {xs : List α} {i : Int} (h0 : 0 ≤ i) (h1 : i < xs.length) : ∃ x ∈ xs, L2.atI (xs.map f) i = some (f x) := by
  have hl : i.toNat < xs.length := by omega
  refine ⟨xs[i.toNat], List.getElem_mem hl, ?_⟩
  unfold L2.atI
  rw [List.length_map, ixN_in h0 h1]
  show (xs.map f)[i.toNat]? = _
  rw [List.getElem?_map, List.getElem?_eq_getElem hl]
  rfl
def bDraw (fm : Nat) : List IS := [.set (.nm 2) (.idx (.slot 0) (.cst (.str "at"))), .setix (.slot 0) (.cst (.str "at")) (.bin .add (.slot 2) (.cst (.int 1))), .set (.nm 3) (.bin .mod (.bi .int [.slot 2]) (.bi .len [.idx (.slot 0) (.cst (.str "cells"))])), .set (.nm 4) (.idx (.idx (.slot 0) (.cst (.str "lefts"))) (.slot 3)), .iff (.cmp .gt (.slot 4) (.cst (.int 0))) [.setix (.idx (.slot 0) (.cst (.str "lefts"))) (.slot 3) (.bin .fdiv (.slot 4) (.slot 1)), .ret (.bin .mod (.bi .int [.slot 4]) (.slot 1))] [], .set (.nm 5) (.call fm [.call fm [.idx (.idx (.slot 0) (.cst (.str "cells"))) (.slot 3), .slot 2], .bin .add (.cst (.int 40)) (.slot 2)]), .ret (.bin .mod (.bin .fdiv (.bi .int [.bin .add (.bin .mul (.slot 5) (.cst (.int 2147483647))) (.call fm [.slot 5, .bin .add (.cst (.int 7)) (.slot 2)])]) (.cst (.int 64))) (.slot 1))]
def fDraw (fm : Nat) : Fn := ⟨2, 6, false, bDraw fm⟩
theorem bs_at {b : Bs} {R : Sto} : index (.ref 3) (.str "at") (b.sto ++ R) = .ok (.int b.t) (b.sto ++ R) := ixD (n := 3) rfl dg_at
theorem bs_cells {b : Bs} {R : Sto} : index (.ref 3) (.str "cells") (b.sto ++ R) = .ok (.ref 2) (b.sto ++ R) := ixD (n := 3) rfl dg_cells
theorem bs_lefts {b : Bs} {R : Sto} : index (.ref 3) (.str "lefts") (b.sto ++ R) = .ok (.ref 4) (b.sto ++ R) := ixD (n := 3) rfl dg_lefts
theorem bs_len {b : Bs} {R : Sto} : bifn .len [.ref 2] (b.sto ++ R) = .ok (.int b.cells.length) (b.sto ++ R) := by rw [lenL (xs := b.cells.map .int) rfl, List.length_map]
theorem bs_left {b : Bs} {R : Sto} {i : Int} : index (.ref 4) (.int i) (b.sto ++ R) = getO (L2.atI (b.lefts.map .int) i) (b.sto ++ R) := q_ixL rfl
theorem bs_cell {b : Bs} {R : Sto} {i : Int} : index (.ref 2) (.int i) (b.sto ++ R) = getO (L2.atI (b.cells.map .int) i) (b.sto ++ R) := q_ixL rfl
theorem draw_ok {T : Tab} {n fd fm : Nat} {R : Sto} {b : Bs} {m : Int} (hd : T.fns[fd]? = some (fDraw fm)) (hm : T.fns[fm]? = some fMixed) (hb : b.ok) (ht : b.t < 2 ^ 60) (h1 : 1 ≤ m) (h2 : Bt 8000 m) :
    Wp (run T (n + 2) fd 0 [.ref 3, .int m] (b.sto ++ R)) fun d S' => ∃ (v : Int) (b' : Bs), d = .int v ∧ 0 ≤ v ∧ v < m ∧ S' = b'.sto ++ R ∧ b'.ok ∧ b'.t = b.t + 1 := by
  refine wp_run hd rfl (wp_b ?_)
  obtain ⟨ns, cells, lefts, t⟩ := b
  obtain ⟨hl, hp⟩ := hb
  dsimp only at hl hp ht
  have hp' : (0 : Int) < (cells.length : Int) := by omega
  have hsp := fmod_pos (i := (t : Int)) hp'
  have hne : (cells.length : Int) ≠ 0 := by omega
  have hm0 : m ≠ 0 := by omega
  have h2' := (divOk hm0 h2 (by decide)).2
  simp only [q_slot, q_cst, q_glo, q_tup, q_lst, q_dic, q_bin, q_neg, q_not, q_cmp, q_ifx, q_isi, q_bi, q_call, q_callk, q_idx, q_slc, q_append, q_extend, q_and, q_or, q_nil, q_cons, q_none, q_some, q_and1, q_and2, q_andT, q_andF, q_andB, q_or1, q_or2, q_orB, q_tval, q_tnot, q_tand, q_tor, q_tcmp, q_tand1, q_tand2, q_tor1, q_tor2, q_cnil, q_ccons, q_set, q_par, q_setix, q_ex, q_ret, q_retN, q_iff, q_pass, q_brk, q_cont, q_bnil, q_nextN, q_nextR, q_nextK, q_nextC, q_bok, q_getS, q_getO, q_t0, q_t1, q_t2, q_t3, q_t4, q_l0, q_l1, q_l2, q_l3, q_l4, q_l5, q_l6, q_l8, q_negI, q_notS, q_okB, q_okI, q_nxO, q_nxS, q_mkNon, q_iteT, q_iteF, q_ofB, q_addI, q_subI, q_mulI, q_fdivI, q_modI, q_powI, q_addT, q_eqI, q_neI, q_ltI, q_leI, q_gtI, q_geI, q_eqB, q_neB, q_eqS, q_neS, q_isB, q_isnB, q_isN, q_isnN, q_truB, q_truI, q_isiI, q_isiB, q_isiS, q_isiT, q_isiN, q_lenT, q_gcd, q_abs, q_max, q_min, q_int, q_tupT, q_listT, q_ixT, q_ixL, q_at0, q_at1, q_at2, q_at3, q_at4, q_nm, q_tp, q_asn, q_asc, q_pn, q_pc, wp_bind, wp_ok, List.map_cons, List.map_nil, List.replicate, List.cons_append, List.nil_append, List.append_nil, List.getElem?_cons_zero, List.getElem?_cons_succ, List.set_cons_zero, List.set_cons_succ, List.length_cons, List.length_nil, if_true, if_false, Nat.reduceAdd, Nat.reduceSub, Nat.reduceLT, Nat.reduceLeDiff, Nat.zero_add, Nat.lt_add_one, Nat.zero_lt_succ, decide_true, decide_false, Bool.not_true, Bool.not_false, ne_eq, not_false_eq_true, not_true_eq_false, Int.reduceEq, Int.reduceNe, Int.reduceLT, Int.reduceLE, Int.reduceNeg, Int.reduceToNat, Nat.reducePow, Nat.reduceEqDiff, Bool.false_eq_true, List.any_cons, List.any_nil, Bool.or_false, Bool.or_true, Bool.false_or, Bool.true_or, Ty.sub, Int.cast_ofNat_Int, Int.natCast_zero, Int.natCast_one, eq_self, fDraw, bs_at]
  refine wp_b ?_
  have s1 : setixD 0 (.ref 3) (.str "at") (.int ((t : Int) + 1)) (Bs.sto ⟨ns, cells, lefts, t⟩ ++ R) = some (Bs.sto ⟨ns, cells, lefts, t + 1⟩ ++ R) := rfl
  simp only [q_slot, q_cst, q_glo, q_tup, q_lst, q_dic, q_bin, q_neg, q_not, q_cmp, q_ifx, q_isi, q_bi, q_call, q_callk, q_idx, q_slc, q_append, q_extend, q_and, q_or, q_nil, q_cons, q_none, q_some, q_and1, q_and2, q_andT, q_andF, q_andB, q_or1, q_or2, q_orB, q_tval, q_tnot, q_tand, q_tor, q_tcmp, q_tand1, q_tand2, q_tor1, q_tor2, q_cnil, q_ccons, q_set, q_par, q_setix, q_ex, q_ret, q_retN, q_iff, q_pass, q_brk, q_cont, q_bnil, q_nextN, q_nextR, q_nextK, q_nextC, q_bok, q_getS, q_getO, q_t0, q_t1, q_t2, q_t3, q_t4, q_l0, q_l1, q_l2, q_l3, q_l4, q_l5, q_l6, q_l8, q_negI, q_notS, q_okB, q_okI, q_nxO, q_nxS, q_mkNon, q_iteT, q_iteF, q_ofB, q_addI, q_subI, q_mulI, q_fdivI, q_modI, q_powI, q_addT, q_eqI, q_neI, q_ltI, q_leI, q_gtI, q_geI, q_eqB, q_neB, q_eqS, q_neS, q_isB, q_isnB, q_isN, q_isnN, q_truB, q_truI, q_isiI, q_isiB, q_isiS, q_isiT, q_isiN, q_lenT, q_gcd, q_abs, q_max, q_min, q_int, q_tupT, q_listT, q_ixT, q_ixL, q_at0, q_at1, q_at2, q_at3, q_at4, q_nm, q_tp, q_asn, q_asc, q_pn, q_pc, wp_bind, wp_ok, List.map_cons, List.map_nil, List.replicate, List.cons_append, List.nil_append, List.append_nil, List.getElem?_cons_zero, List.getElem?_cons_succ, List.set_cons_zero, List.set_cons_succ, List.length_cons, List.length_nil, if_true, if_false, Nat.reduceAdd, Nat.reduceSub, Nat.reduceLT, Nat.reduceLeDiff, Nat.zero_add, Nat.lt_add_one, Nat.zero_lt_succ, decide_true, decide_false, Bool.not_true, Bool.not_false, ne_eq, not_false_eq_true, not_true_eq_false, Int.reduceEq, Int.reduceNe, Int.reduceLT, Int.reduceLE, Int.reduceNeg, Int.reduceToNat, Nat.reducePow, Nat.reduceEqDiff, Bool.false_eq_true, List.any_cons, List.any_nil, Bool.or_false, Bool.or_true, Bool.false_or, Bool.true_or, Ty.sub, Int.cast_ofNat_Int, Int.natCast_zero, Int.natCast_one, eq_self, s1]
  refine wp_b ?_
  simp only [q_slot, q_cst, q_glo, q_tup, q_lst, q_dic, q_bin, q_neg, q_not, q_cmp, q_ifx, q_isi, q_bi, q_call, q_callk, q_idx, q_slc, q_append, q_extend, q_and, q_or, q_nil, q_cons, q_none, q_some, q_and1, q_and2, q_andT, q_andF, q_andB, q_or1, q_or2, q_orB, q_tval, q_tnot, q_tand, q_tor, q_tcmp, q_tand1, q_tand2, q_tor1, q_tor2, q_cnil, q_ccons, q_set, q_par, q_setix, q_ex, q_ret, q_retN, q_iff, q_pass, q_brk, q_cont, q_bnil, q_nextN, q_nextR, q_nextK, q_nextC, q_bok, q_getS, q_getO, q_t0, q_t1, q_t2, q_t3, q_t4, q_l0, q_l1, q_l2, q_l3, q_l4, q_l5, q_l6, q_l8, q_negI, q_notS, q_okB, q_okI, q_nxO, q_nxS, q_mkNon, q_iteT, q_iteF, q_ofB, q_addI, q_subI, q_mulI, q_fdivI, q_modI, q_powI, q_addT, q_eqI, q_neI, q_ltI, q_leI, q_gtI, q_geI, q_eqB, q_neB, q_eqS, q_neS, q_isB, q_isnB, q_isN, q_isnN, q_truB, q_truI, q_isiI, q_isiB, q_isiS, q_isiT, q_isiN, q_lenT, q_gcd, q_abs, q_max, q_min, q_int, q_tupT, q_listT, q_ixT, q_ixL, q_at0, q_at1, q_at2, q_at3, q_at4, q_nm, q_tp, q_asn, q_asc, q_pn, q_pc, wp_bind, wp_ok, List.map_cons, List.map_nil, List.replicate, List.cons_append, List.nil_append, List.append_nil, List.getElem?_cons_zero, List.getElem?_cons_succ, List.set_cons_zero, List.set_cons_succ, List.length_cons, List.length_nil, if_true, if_false, Nat.reduceAdd, Nat.reduceSub, Nat.reduceLT, Nat.reduceLeDiff, Nat.zero_add, Nat.lt_add_one, Nat.zero_lt_succ, decide_true, decide_false, Bool.not_true, Bool.not_false, ne_eq, not_false_eq_true, not_true_eq_false, Int.reduceEq, Int.reduceNe, Int.reduceLT, Int.reduceLE, Int.reduceNeg, Int.reduceToNat, Nat.reducePow, Nat.reduceEqDiff, Bool.false_eq_true, List.any_cons, List.any_nil, Bool.or_false, Bool.or_true, Bool.false_or, Bool.true_or, Ty.sub, Int.cast_ofNat_Int, Int.natCast_zero, Int.natCast_one, eq_self, bs_cells, bs_len, hne]
  generalize hs : (t : Int).fmod (cells.length : Int) = sp at hsp ⊢
  refine wp_b ?_
  obtain ⟨left, hleft, a1⟩ := atI_map (f := D.int) (xs := lefts) hsp.1 (by omega)
  obtain ⟨cell, hcell, a2⟩ := atI_map (f := D.int) (xs := cells) hsp.1 (by omega)
  simp only [q_slot, q_cst, q_glo, q_tup, q_lst, q_dic, q_bin, q_neg, q_not, q_cmp, q_ifx, q_isi, q_bi, q_call, q_callk, q_idx, q_slc, q_append, q_extend, q_and, q_or, q_nil, q_cons, q_none, q_some, q_and1, q_and2, q_andT, q_andF, q_andB, q_or1, q_or2, q_orB, q_tval, q_tnot, q_tand, q_tor, q_tcmp, q_tand1, q_tand2, q_tor1, q_tor2, q_cnil, q_ccons, q_set, q_par, q_setix, q_ex, q_ret, q_retN, q_iff, q_pass, q_brk, q_cont, q_bnil, q_nextN, q_nextR, q_nextK, q_nextC, q_bok, q_getS, q_getO, q_t0, q_t1, q_t2, q_t3, q_t4, q_l0, q_l1, q_l2, q_l3, q_l4, q_l5, q_l6, q_l8, q_negI, q_notS, q_okB, q_okI, q_nxO, q_nxS, q_mkNon, q_iteT, q_iteF, q_ofB, q_addI, q_subI, q_mulI, q_fdivI, q_modI, q_powI, q_addT, q_eqI, q_neI, q_ltI, q_leI, q_gtI, q_geI, q_eqB, q_neB, q_eqS, q_neS, q_isB, q_isnB, q_isN, q_isnN, q_truB, q_truI, q_isiI, q_isiB, q_isiS, q_isiT, q_isiN, q_lenT, q_gcd, q_abs, q_max, q_min, q_int, q_tupT, q_listT, q_ixT, q_ixL, q_at0, q_at1, q_at2, q_at3, q_at4, q_nm, q_tp, q_asn, q_asc, q_pn, q_pc, wp_bind, wp_ok, List.map_cons, List.map_nil, List.replicate, List.cons_append, List.nil_append, List.append_nil, List.getElem?_cons_zero, List.getElem?_cons_succ, List.set_cons_zero, List.set_cons_succ, List.length_cons, List.length_nil, if_true, if_false, Nat.reduceAdd, Nat.reduceSub, Nat.reduceLT, Nat.reduceLeDiff, Nat.zero_add, Nat.lt_add_one, Nat.zero_lt_succ, decide_true, decide_false, Bool.not_true, Bool.not_false, ne_eq, not_false_eq_true, not_true_eq_false, Int.reduceEq, Int.reduceNe, Int.reduceLT, Int.reduceLE, Int.reduceNeg, Int.reduceToNat, Nat.reducePow, Nat.reduceEqDiff, Bool.false_eq_true, List.any_cons, List.any_nil, Bool.or_false, Bool.or_true, Bool.false_or, Bool.true_or, Ty.sub, Int.cast_ofNat_Int, Int.natCast_zero, Int.natCast_one, eq_self, bs_lefts, bs_left, a1]
  refine wp_b ?_
  simp only [q_slot, q_cst, q_glo, q_tup, q_lst, q_dic, q_bin, q_neg, q_not, q_cmp, q_ifx, q_isi, q_bi, q_call, q_callk, q_idx, q_slc, q_append, q_extend, q_and, q_or, q_nil, q_cons, q_none, q_some, q_and1, q_and2, q_andT, q_andF, q_andB, q_or1, q_or2, q_orB, q_tval, q_tnot, q_tand, q_tor, q_tcmp, q_tand1, q_tand2, q_tor1, q_tor2, q_cnil, q_ccons, q_set, q_par, q_setix, q_ex, q_ret, q_retN, q_iff, q_pass, q_brk, q_cont, q_bnil, q_nextN, q_nextR, q_nextK, q_nextC, q_bok, q_getS, q_getO, q_t0, q_t1, q_t2, q_t3, q_t4, q_l0, q_l1, q_l2, q_l3, q_l4, q_l5, q_l6, q_l8, q_negI, q_notS, q_okB, q_okI, q_nxO, q_nxS, q_mkNon, q_iteT, q_iteF, q_ofB, q_addI, q_subI, q_mulI, q_fdivI, q_modI, q_powI, q_addT, q_eqI, q_neI, q_ltI, q_leI, q_gtI, q_geI, q_eqB, q_neB, q_eqS, q_neS, q_isB, q_isnB, q_isN, q_isnN, q_truB, q_truI, q_isiI, q_isiB, q_isiS, q_isiT, q_isiN, q_lenT, q_gcd, q_abs, q_max, q_min, q_int, q_tupT, q_listT, q_ixT, q_ixL, q_at0, q_at1, q_at2, q_at3, q_at4, q_nm, q_tp, q_asn, q_asc, q_pn, q_pc, wp_bind, wp_ok, List.map_cons, List.map_nil, List.replicate, List.cons_append, List.nil_append, List.append_nil, List.getElem?_cons_zero, List.getElem?_cons_succ, List.set_cons_zero, List.set_cons_succ, List.length_cons, List.length_nil, if_true, if_false, Nat.reduceAdd, Nat.reduceSub, Nat.reduceLT, Nat.reduceLeDiff, Nat.zero_add, Nat.lt_add_one, Nat.zero_lt_succ, decide_true, decide_false, Bool.not_true, Bool.not_false, ne_eq, not_false_eq_true, not_true_eq_false, Int.reduceEq, Int.reduceNe, Int.reduceLT, Int.reduceLE, Int.reduceNeg, Int.reduceToNat, Nat.reducePow, Nat.reduceEqDiff, Bool.false_eq_true, List.any_cons, List.any_nil, Bool.or_false, Bool.or_true, Bool.false_or, Bool.true_or, Ty.sub, Int.cast_ofNat_Int, Int.natCast_zero, Int.natCast_one, eq_self]
  by_cases h0 : 0 < left
  · simp only [q_slot, q_cst, q_glo, q_tup, q_lst, q_dic, q_bin, q_neg, q_not, q_cmp, q_ifx, q_isi, q_bi, q_call, q_callk, q_idx, q_slc, q_append, q_extend, q_and, q_or, q_nil, q_cons, q_none, q_some, q_and1, q_and2, q_andT, q_andF, q_andB, q_or1, q_or2, q_orB, q_tval, q_tnot, q_tand, q_tor, q_tcmp, q_tand1, q_tand2, q_tor1, q_tor2, q_cnil, q_ccons, q_set, q_par, q_setix, q_ex, q_ret, q_retN, q_iff, q_pass, q_brk, q_cont, q_bnil, q_nextN, q_nextR, q_nextK, q_nextC, q_bok, q_getS, q_getO, q_t0, q_t1, q_t2, q_t3, q_t4, q_l0, q_l1, q_l2, q_l3, q_l4, q_l5, q_l6, q_l8, q_negI, q_notS, q_okB, q_okI, q_nxO, q_nxS, q_mkNon, q_iteT, q_iteF, q_ofB, q_addI, q_subI, q_mulI, q_fdivI, q_modI, q_powI, q_addT, q_eqI, q_neI, q_ltI, q_leI, q_gtI, q_geI, q_eqB, q_neB, q_eqS, q_neS, q_isB, q_isnB, q_isN, q_isnN, q_truB, q_truI, q_isiI, q_isiB, q_isiS, q_isiT, q_isiN, q_lenT, q_gcd, q_abs, q_max, q_min, q_int, q_tupT, q_listT, q_ixT, q_ixL, q_at0, q_at1, q_at2, q_at3, q_at4, q_nm, q_tp, q_asn, q_asc, q_pn, q_pc, wp_bind, wp_ok, List.map_cons, List.map_nil, List.replicate, List.cons_append, List.nil_append, List.append_nil, List.getElem?_cons_zero, List.getElem?_cons_succ, List.set_cons_zero, List.set_cons_succ, List.length_cons, List.length_nil, if_true, if_false, Nat.reduceAdd, Nat.reduceSub, Nat.reduceLT, Nat.reduceLeDiff, Nat.zero_add, Nat.lt_add_one, Nat.zero_lt_succ, decide_true, decide_false, Bool.not_true, Bool.not_false, ne_eq, not_false_eq_true, not_true_eq_false, Int.reduceEq, Int.reduceNe, Int.reduceLT, Int.reduceLE, Int.reduceNeg, Int.reduceToNat, Nat.reducePow, Nat.reduceEqDiff, Bool.false_eq_true, List.any_cons, List.any_nil, Bool.or_false, Bool.or_true, Bool.false_or, Bool.true_or, Ty.sub, Int.cast_ofNat_Int, Int.natCast_zero, Int.natCast_one, eq_self, h0]
    refine wp_b ?_
    have s2 : setixD 0 (.ref 4) (.int sp) (.int (left.fdiv m)) (Bs.sto ⟨ns, cells, lefts, t + 1⟩ ++ R) = some (Bs.sto ⟨ns, cells, lefts.set sp.toNat (left.fdiv m), t + 1⟩ ++ R) := by
      show (match L2.ixN (lefts.map D.int).length sp with | some j => write 0 4 (.lst ((lefts.map D.int).set j (.int (left.fdiv m)))) _ | none => none) = _
      rw [List.length_map, ixN_in hsp.1 (by omega)]
      show some (List.set _ 4 _) = _
      rw [← List.map_set]
      rfl
    simp only [q_slot, q_cst, q_glo, q_tup, q_lst, q_dic, q_bin, q_neg, q_not, q_cmp, q_ifx, q_isi, q_bi, q_call, q_callk, q_idx, q_slc, q_append, q_extend, q_and, q_or, q_nil, q_cons, q_none, q_some, q_and1, q_and2, q_andT, q_andF, q_andB, q_or1, q_or2, q_orB, q_tval, q_tnot, q_tand, q_tor, q_tcmp, q_tand1, q_tand2, q_tor1, q_tor2, q_cnil, q_ccons, q_set, q_par, q_setix, q_ex, q_ret, q_retN, q_iff, q_pass, q_brk, q_cont, q_bnil, q_nextN, q_nextR, q_nextK, q_nextC, q_bok, q_getS, q_getO, q_t0, q_t1, q_t2, q_t3, q_t4, q_l0, q_l1, q_l2, q_l3, q_l4, q_l5, q_l6, q_l8, q_negI, q_notS, q_okB, q_okI, q_nxO, q_nxS, q_mkNon, q_iteT, q_iteF, q_ofB, q_addI, q_subI, q_mulI, q_fdivI, q_modI, q_powI, q_addT, q_eqI, q_neI, q_ltI, q_leI, q_gtI, q_geI, q_eqB, q_neB, q_eqS, q_neS, q_isB, q_isnB, q_isN, q_isnN, q_truB, q_truI, q_isiI, q_isiB, q_isiS, q_isiT, q_isiN, q_lenT, q_gcd, q_abs, q_max, q_min, q_int, q_tupT, q_listT, q_ixT, q_ixL, q_at0, q_at1, q_at2, q_at3, q_at4, q_nm, q_tp, q_asn, q_asc, q_pn, q_pc, wp_bind, wp_ok, List.map_cons, List.map_nil, List.replicate, List.cons_append, List.nil_append, List.append_nil, List.getElem?_cons_zero, List.getElem?_cons_succ, List.set_cons_zero, List.set_cons_succ, List.length_cons, List.length_nil, if_true, if_false, Nat.reduceAdd, Nat.reduceSub, Nat.reduceLT, Nat.reduceLeDiff, Nat.zero_add, Nat.lt_add_one, Nat.zero_lt_succ, decide_true, decide_false, Bool.not_true, Bool.not_false, ne_eq, not_false_eq_true, not_true_eq_false, Int.reduceEq, Int.reduceNe, Int.reduceLT, Int.reduceLE, Int.reduceNeg, Int.reduceToNat, Nat.reducePow, Nat.reduceEqDiff, Bool.false_eq_true, List.any_cons, List.any_nil, Bool.or_false, Bool.or_true, Bool.false_or, Bool.true_or, Ty.sub, Int.cast_ofNat_Int, Int.natCast_zero, Int.natCast_one, eq_self, bs_lefts, hm0, h2', s2]
    refine wp_b ?_
    have := fmod_pos (i := left) (j := m) (by omega)
    simp only [q_slot, q_cst, q_glo, q_tup, q_lst, q_dic, q_bin, q_neg, q_not, q_cmp, q_ifx, q_isi, q_bi, q_call, q_callk, q_idx, q_slc, q_append, q_extend, q_and, q_or, q_nil, q_cons, q_none, q_some, q_and1, q_and2, q_andT, q_andF, q_andB, q_or1, q_or2, q_orB, q_tval, q_tnot, q_tand, q_tor, q_tcmp, q_tand1, q_tand2, q_tor1, q_tor2, q_cnil, q_ccons, q_set, q_par, q_setix, q_ex, q_ret, q_retN, q_iff, q_pass, q_brk, q_cont, q_bnil, q_nextN, q_nextR, q_nextK, q_nextC, q_bok, q_getS, q_getO, q_t0, q_t1, q_t2, q_t3, q_t4, q_l0, q_l1, q_l2, q_l3, q_l4, q_l5, q_l6, q_l8, q_negI, q_notS, q_okB, q_okI, q_nxO, q_nxS, q_mkNon, q_iteT, q_iteF, q_ofB, q_addI, q_subI, q_mulI, q_fdivI, q_modI, q_powI, q_addT, q_eqI, q_neI, q_ltI, q_leI, q_gtI, q_geI, q_eqB, q_neB, q_eqS, q_neS, q_isB, q_isnB, q_isN, q_isnN, q_truB, q_truI, q_isiI, q_isiB, q_isiS, q_isiT, q_isiN, q_lenT, q_gcd, q_abs, q_max, q_min, q_int, q_tupT, q_listT, q_ixT, q_ixL, q_at0, q_at1, q_at2, q_at3, q_at4, q_nm, q_tp, q_asn, q_asc, q_pn, q_pc, wp_bind, wp_ok, List.map_cons, List.map_nil, List.replicate, List.cons_append, List.nil_append, List.append_nil, List.getElem?_cons_zero, List.getElem?_cons_succ, List.set_cons_zero, List.set_cons_succ, List.length_cons, List.length_nil, if_true, if_false, Nat.reduceAdd, Nat.reduceSub, Nat.reduceLT, Nat.reduceLeDiff, Nat.zero_add, Nat.lt_add_one, Nat.zero_lt_succ, decide_true, decide_false, Bool.not_true, Bool.not_false, ne_eq, not_false_eq_true, not_true_eq_false, Int.reduceEq, Int.reduceNe, Int.reduceLT, Int.reduceLE, Int.reduceNeg, Int.reduceToNat, Nat.reducePow, Nat.reduceEqDiff, Bool.false_eq_true, List.any_cons, List.any_nil, Bool.or_false, Bool.or_true, Bool.false_or, Bool.true_or, Ty.sub, Int.cast_ofNat_Int, Int.natCast_zero, Int.natCast_one, eq_self, hm0]
    exact wp_ok.mpr ⟨_, ⟨ns, cells, lefts.set sp.toNat (left.fdiv m), t + 1⟩, rfl, this.1, this.2, rfl, ⟨by rw [List.length_set]; exact hl, hp⟩, rfl⟩
  · simp only [q_slot, q_cst, q_glo, q_tup, q_lst, q_dic, q_bin, q_neg, q_not, q_cmp, q_ifx, q_isi, q_bi, q_call, q_callk, q_idx, q_slc, q_append, q_extend, q_and, q_or, q_nil, q_cons, q_none, q_some, q_and1, q_and2, q_andT, q_andF, q_andB, q_or1, q_or2, q_orB, q_tval, q_tnot, q_tand, q_tor, q_tcmp, q_tand1, q_tand2, q_tor1, q_tor2, q_cnil, q_ccons, q_set, q_par, q_setix, q_ex, q_ret, q_retN, q_iff, q_pass, q_brk, q_cont, q_bnil, q_nextN, q_nextR, q_nextK, q_nextC, q_bok, q_getS, q_getO, q_t0, q_t1, q_t2, q_t3, q_t4, q_l0, q_l1, q_l2, q_l3, q_l4, q_l5, q_l6, q_l8, q_negI, q_notS, q_okB, q_okI, q_nxO, q_nxS, q_mkNon, q_iteT, q_iteF, q_ofB, q_addI, q_subI, q_mulI, q_fdivI, q_modI, q_powI, q_addT, q_eqI, q_neI, q_ltI, q_leI, q_gtI, q_geI, q_eqB, q_neB, q_eqS, q_neS, q_isB, q_isnB, q_isN, q_isnN, q_truB, q_truI, q_isiI, q_isiB, q_isiS, q_isiT, q_isiN, q_lenT, q_gcd, q_abs, q_max, q_min, q_int, q_tupT, q_listT, q_ixT, q_ixL, q_at0, q_at1, q_at2, q_at3, q_at4, q_nm, q_tp, q_asn, q_asc, q_pn, q_pc, wp_bind, wp_ok, List.map_cons, List.map_nil, List.replicate, List.cons_append, List.nil_append, List.append_nil, List.getElem?_cons_zero, List.getElem?_cons_succ, List.set_cons_zero, List.set_cons_succ, List.length_cons, List.length_nil, if_true, if_false, Nat.reduceAdd, Nat.reduceSub, Nat.reduceLT, Nat.reduceLeDiff, Nat.zero_add, Nat.lt_add_one, Nat.zero_lt_succ, decide_true, decide_false, Bool.not_true, Bool.not_false, ne_eq, not_false_eq_true, not_true_eq_false, Int.reduceEq, Int.reduceNe, Int.reduceLT, Int.reduceLE, Int.reduceNeg, Int.reduceToNat, Nat.reducePow, Nat.reduceEqDiff, Bool.false_eq_true, List.any_cons, List.any_nil, Bool.or_false, Bool.or_true, Bool.false_or, Bool.true_or, Ty.sub, Int.cast_ofNat_Int, Int.natCast_zero, Int.natCast_one, eq_self, h0]
    refine wp_b ?_
    have bt : Bt 60 (t : Int) := .of (by omega) (by omega)
    have bt2 : Bt 61 ((40 : Int) + t) := .of (by omega) (by omega)
    have bt3 : Bt 61 ((7 : Int) + t) := .of (by omega) (by omega)
    simp only [q_slot, q_cst, q_glo, q_tup, q_lst, q_dic, q_bin, q_neg, q_not, q_cmp, q_ifx, q_isi, q_bi, q_call, q_callk, q_idx, q_slc, q_append, q_extend, q_and, q_or, q_nil, q_cons, q_none, q_some, q_and1, q_and2, q_andT, q_andF, q_andB, q_or1, q_or2, q_orB, q_tval, q_tnot, q_tand, q_tor, q_tcmp, q_tand1, q_tand2, q_tor1, q_tor2, q_cnil, q_ccons, q_set, q_par, q_setix, q_ex, q_ret, q_retN, q_iff, q_pass, q_brk, q_cont, q_bnil, q_nextN, q_nextR, q_nextK, q_nextC, q_bok, q_getS, q_getO, q_t0, q_t1, q_t2, q_t3, q_t4, q_l0, q_l1, q_l2, q_l3, q_l4, q_l5, q_l6, q_l8, q_negI, q_notS, q_okB, q_okI, q_nxO, q_nxS, q_mkNon, q_iteT, q_iteF, q_ofB, q_addI, q_subI, q_mulI, q_fdivI, q_modI, q_powI, q_addT, q_eqI, q_neI, q_ltI, q_leI, q_gtI, q_geI, q_eqB, q_neB, q_eqS, q_neS, q_isB, q_isnB, q_isN, q_isnN, q_truB, q_truI, q_isiI, q_isiB, q_isiS, q_isiT, q_isiN, q_lenT, q_gcd, q_abs, q_max, q_min, q_int, q_tupT, q_listT, q_ixT, q_ixL, q_at0, q_at1, q_at2, q_at3, q_at4, q_nm, q_tp, q_asn, q_asc, q_pn, q_pc, wp_bind, wp_ok, List.map_cons, List.map_nil, List.replicate, List.cons_append, List.nil_append, List.append_nil, List.getElem?_cons_zero, List.getElem?_cons_succ, List.set_cons_zero, List.set_cons_succ, List.length_cons, List.length_nil, if_true, if_false, Nat.reduceAdd, Nat.reduceSub, Nat.reduceLT, Nat.reduceLeDiff, Nat.zero_add, Nat.lt_add_one, Nat.zero_lt_succ, decide_true, decide_false, Bool.not_true, Bool.not_false, ne_eq, not_false_eq_true, not_true_eq_false, Int.reduceEq, Int.reduceNe, Int.reduceLT, Int.reduceLE, Int.reduceNeg, Int.reduceToNat, Nat.reducePow, Nat.reduceEqDiff, Bool.false_eq_true, List.any_cons, List.any_nil, Bool.or_false, Bool.or_true, Bool.false_or, Bool.true_or, Ty.sub, Int.cast_ofNat_Int, Int.natCast_zero, Int.natCast_one, eq_self, bs_cells, bs_cell, a2]
    refine (mixed_ok hm (bt.mono (by decide))).imp fun d S' ⟨e1, v, e2, v1, v2⟩ => ?_
    subst e1 e2
    refine (mixed_ok hm (bt2.mono (by decide))).imp fun d S' ⟨e1, w, e2, w1, w2⟩ => ?_
    subst e1 e2
    refine wp_b ?_
    have bw : Bt 31 w := .of (by omega) (by omega)
    have m1 := mulOk bw (show Bt 31 (2147483647 : Int) from .c rfl) (by decide)
    simp only [q_slot, q_cst, q_glo, q_tup, q_lst, q_dic, q_bin, q_neg, q_not, q_cmp, q_ifx, q_isi, q_bi, q_call, q_callk, q_idx, q_slc, q_append, q_extend, q_and, q_or, q_nil, q_cons, q_none, q_some, q_and1, q_and2, q_andT, q_andF, q_andB, q_or1, q_or2, q_orB, q_tval, q_tnot, q_tand, q_tor, q_tcmp, q_tand1, q_tand2, q_tor1, q_tor2, q_cnil, q_ccons, q_set, q_par, q_setix, q_ex, q_ret, q_retN, q_iff, q_pass, q_brk, q_cont, q_bnil, q_nextN, q_nextR, q_nextK, q_nextC, q_bok, q_getS, q_getO, q_t0, q_t1, q_t2, q_t3, q_t4, q_l0, q_l1, q_l2, q_l3, q_l4, q_l5, q_l6, q_l8, q_negI, q_notS, q_okB, q_okI, q_nxO, q_nxS, q_mkNon, q_iteT, q_iteF, q_ofB, q_addI, q_subI, q_mulI, q_fdivI, q_modI, q_powI, q_addT, q_eqI, q_neI, q_ltI, q_leI, q_gtI, q_geI, q_eqB, q_neB, q_eqS, q_neS, q_isB, q_isnB, q_isN, q_isnN, q_truB, q_truI, q_isiI, q_isiB, q_isiS, q_isiT, q_isiN, q_lenT, q_gcd, q_abs, q_max, q_min, q_int, q_tupT, q_listT, q_ixT, q_ixL, q_at0, q_at1, q_at2, q_at3, q_at4, q_nm, q_tp, q_asn, q_asc, q_pn, q_pc, wp_bind, wp_ok, List.map_cons, List.map_nil, List.replicate, List.cons_append, List.nil_append, List.append_nil, List.getElem?_cons_zero, List.getElem?_cons_succ, List.set_cons_zero, List.set_cons_succ, List.length_cons, List.length_nil, if_true, if_false, Nat.reduceAdd, Nat.reduceSub, Nat.reduceLT, Nat.reduceLeDiff, Nat.zero_add, Nat.lt_add_one, Nat.zero_lt_succ, decide_true, decide_false, Bool.not_true, Bool.not_false, ne_eq, not_false_eq_true, not_true_eq_false, Int.reduceEq, Int.reduceNe, Int.reduceLT, Int.reduceLE, Int.reduceNeg, Int.reduceToNat, Nat.reducePow, Nat.reduceEqDiff, Bool.false_eq_true, List.any_cons, List.any_nil, Bool.or_false, Bool.or_true, Bool.false_or, Bool.true_or, Ty.sub, Int.cast_ofNat_Int, Int.natCast_zero, Int.natCast_one, eq_self, m1]
    refine (mixed_ok hm (bt3.mono (by decide))).imp fun d S' ⟨e1, u, e2, u1, u2⟩ => ?_
    subst e1 e2
    have c64 : (64 : Int).natAbs.log2 < 9000 := by decide
    simp only [q_slot, q_cst, q_glo, q_tup, q_lst, q_dic, q_bin, q_neg, q_not, q_cmp, q_ifx, q_isi, q_bi, q_call, q_callk, q_idx, q_slc, q_append, q_extend, q_and, q_or, q_nil, q_cons, q_none, q_some, q_and1, q_and2, q_andT, q_andF, q_andB, q_or1, q_or2, q_orB, q_tval, q_tnot, q_tand, q_tor, q_tcmp, q_tand1, q_tand2, q_tor1, q_tor2, q_cnil, q_ccons, q_set, q_par, q_setix, q_ex, q_ret, q_retN, q_iff, q_pass, q_brk, q_cont, q_bnil, q_nextN, q_nextR, q_nextK, q_nextC, q_bok, q_getS, q_getO, q_t0, q_t1, q_t2, q_t3, q_t4, q_l0, q_l1, q_l2, q_l3, q_l4, q_l5, q_l6, q_l8, q_negI, q_notS, q_okB, q_okI, q_nxO, q_nxS, q_mkNon, q_iteT, q_iteF, q_ofB, q_addI, q_subI, q_mulI, q_fdivI, q_modI, q_powI, q_addT, q_eqI, q_neI, q_ltI, q_leI, q_gtI, q_geI, q_eqB, q_neB, q_eqS, q_neS, q_isB, q_isnB, q_isN, q_isnN, q_truB, q_truI, q_isiI, q_isiB, q_isiS, q_isiT, q_isiN, q_lenT, q_gcd, q_abs, q_max, q_min, q_int, q_tupT, q_listT, q_ixT, q_ixL, q_at0, q_at1, q_at2, q_at3, q_at4, q_nm, q_tp, q_asn, q_asc, q_pn, q_pc, wp_bind, wp_ok, List.map_cons, List.map_nil, List.replicate, List.cons_append, List.nil_append, List.append_nil, List.getElem?_cons_zero, List.getElem?_cons_succ, List.set_cons_zero, List.set_cons_succ, List.length_cons, List.length_nil, if_true, if_false, Nat.reduceAdd, Nat.reduceSub, Nat.reduceLT, Nat.reduceLeDiff, Nat.zero_add, Nat.lt_add_one, Nat.zero_lt_succ, decide_true, decide_false, Bool.not_true, Bool.not_false, ne_eq, not_false_eq_true, not_true_eq_false, Int.reduceEq, Int.reduceNe, Int.reduceLT, Int.reduceLE, Int.reduceNeg, Int.reduceToNat, Nat.reducePow, Nat.reduceEqDiff, Bool.false_eq_true, List.any_cons, List.any_nil, Bool.or_false, Bool.or_true, Bool.false_or, Bool.true_or, Ty.sub, Int.cast_ofNat_Int, Int.natCast_zero, Int.natCast_one, eq_self, c64, hm0]
    have := fmod_pos (i := (w * 2147483647 + u).fdiv 64) (j := m) (by omega)
    exact ⟨_, _, rfl, _, ⟨ns, cells, lefts, t + 1⟩, rfl, this.1, this.2, rfl, ⟨hl, hp⟩, rfl⟩
theorem items_app {S R : Sto} {a : Nat} {xs : List D} (h : items S (.ref a) = some xs) : items (S ++ R) (.ref a) = some xs := by
  have hl : a < S.length := by
    rcases Nat.lt_or_ge a S.length with q | q
    · exact q
    · have e : items S (.ref a) = none := by unfold items; dsimp only; rw [List.getElem?_eq_none q]
      rw [e] at h
      cases h
  unfold items at h ⊢
  dsimp only at h ⊢
  rw [List.getElem?_append_left hl]
  exact h
theorem lc_gen {src : Src} {n : Nat} {S : Sto} {xs : List D} {f : D → Sto → Out (Option D)} {g : D → D} (hn : S.length = n) (hsrc : ∀ acc i, src.item (S ++ [.lst acc]) i = some xs[i]?) (hlen : xs.length ≤ sizeLine)
    (hf : ∀ d ∈ xs, ∀ acc, f d (S ++ [.lst acc]) = .ok (some (g d)) (S ++ [.lst acc])) : ∀ k i, i + k = xs.length → lcL src n f (k + 1) i (S ++ [.lst ((xs.take i).map g)]) = .ok (.ref n) (S ++ [.lst (xs.map g)])
  | 0, i, h => by
    have hi : i = xs.length := by omega
    subst hi
    unfold lcL
    rw [hsrc, List.getElem?_eq_none (Nat.le_refl _), List.take_length]
  | k + 1, i, h => by
    have hi : i < xs.length := by omega
    have hx : xs[i]? = some xs[i] := List.getElem?_eq_getElem hi
    unfold lcL
    rw [hsrc, hx]
    dsimp only
    rw [hf _ (List.getElem_mem hi)]
    show (match (S ++ [SO.lst ((xs.take i).map g)])[n]? with
      | some (.lst acc) => if acc.length < sizeLine then lcL src n f (k + 1) (i + 1) ((S ++ [SO.lst ((xs.take i).map g)]).set n (.lst (acc ++ [g xs[i]]))) else Out.bad
      | _ => Out.bad) = _
    have e1 : (S ++ [SO.lst ((xs.take i).map g)])[n]? = some (.lst ((xs.take i).map g)) := by rw [← hn, List.getElem?_append_right (Nat.le_refl _), Nat.sub_self]; rfl
    have e2 : (S ++ [SO.lst ((xs.take i).map g)]).set n (.lst ((xs.take i).map g ++ [g xs[i]])) = S ++ [.lst ((xs.take (i + 1)).map g)] := by
      rw [← hn, List.set_append_right _ _ (Nat.le_refl _), Nat.sub_self, List.take_succ, hx]
      simp only [List.set_cons_zero, Option.toList, List.map_append, List.map_cons, List.map_nil]
    rw [e1]
    dsimp only
    rw [if_pos (by rw [List.length_map, List.length_take]; omega), e2]
    exact lc_gen hn hsrc hlen hf k (i + 1) (by omega)
theorem lc_lst {a n : Nat} {S : Sto} {xs : List D} {f : D → Sto → Out (Option D)} {g : D → D} (hn : S.length = n) (hx : items S (.ref a) = some xs) (hlen : xs.length ≤ sizeLine)
    (hf : ∀ d ∈ xs, ∀ acc, f d (S ++ [.lst acc]) = .ok (some (g d)) (S ++ [.lst acc])) : lcL (.lst a) n f (xs.length + 1) 0 (S ++ [.lst []]) = .ok (.ref n) (S ++ [.lst (xs.map g)]) := by
  have := lc_gen (src := .lst a) hn (fun acc i => by
    show (items (S ++ [.lst acc]) (.ref a)).map (fun xs => xs[i]?) = _
    rw [items_app hx]
    rfl) hlen hf xs.length 0 (by omega)
  exact this
/-! ### begin -/
theorem dump_ints {S : Sto} {n : Nat} : ∀ ns : List Int, dumps S n (ns.map D.int) = some (ns.map PyData.int)
  | [] => by unfold dumps; rfl
  | i :: ns => by
    show dumps S n (D.int i :: ns.map D.int) = some (PyData.int i :: ns.map PyData.int)
    unfold dumps dump
    rw [dump_ints ns]
    rfl
theorem lay_ints : ∀ ns : List Int, PyData.canLayAll0 (ns.map PyData.int) = true
  | [] => by unfold PyData.canLayAll0; rfl
  | i :: ns => by
    show PyData.canLayAll0 (PyData.int i :: ns.map PyData.int) = true
    unfold PyData.canLayAll0
    rw [lay_ints ns]
    unfold PyData.canLay0
    rfl
theorem dep_ints : ∀ ns : List Int, PyData.depthAll (ns.map PyData.int) = 0
  | [] => by unfold PyData.depthAll; rfl
  | i :: ns => by
    show PyData.depthAll (PyData.int i :: ns.map PyData.int) = 0
    unfold PyData.depthAll
    rw [dep_ints ns]
    unfold PyData.depth
    rfl
theorem shaped_ints (ns : List Int) : SeqAt.shaped (.list (ns.map PyData.int)) = true := by
  unfold SeqAt.shaped
  have h1 : PyData.canLay0 (.list (ns.map PyData.int)) = true := by unfold PyData.canLay0; exact lay_ints ns
  have h2 : PyData.depth (.list (ns.map PyData.int)) = 1 := by unfold PyData.depth; rw [dep_ints]
  rw [h1, h2]
  rfl
theorem ne_nil (ns : List Int) : compOp .ne (.ref 0) (.ref 1) [.frz (ns.map .int), .lst []] = some (!decide (ns = [])) := by
  show (eqD [.frz (ns.map .int), .lst []] (.ref 0) (.ref 1)).map (!·) = _
  have e : eqD [.frz (ns.map .int), .lst []] (.ref 0) (.ref 1) = some (decide (ns = [])) := by
    have d0 : dump [.frz (ns.map .int), .lst []] 60 (.ref 0) = some (.list (ns.map PyData.int)) := by
      unfold dump
      show (dumps _ 59 (ns.map D.int)).map PyData.list = _
      rw [dump_ints]
      rfl
    have d1 : dump [.frz (ns.map .int), .lst []] 60 (.ref 1) = some (.list []) := by
      unfold dump
      show (dumps _ 59 []).map PyData.list = _
      unfold dumps
      rfl
    unfold eqD
    dsimp only
    rw [d0, d1]
    dsimp only
    have s0 := shaped_ints ns
    have s1 : SeqAt.shaped (.list []) = true := shaped_ints []
    rw [s0, s1]
    show some (PyData.eqv (.list (ns.map PyData.int)) (.list [])) = _
    cases ns with
    | nil => unfold PyData.eqv; unfold PyData.eqvAll; rfl
    | cons i ns =>
      show some (PyData.eqv (.list (PyData.int i :: ns.map PyData.int)) (.list [])) = _
      unfold PyData.eqv
      unfold PyData.eqvAll
      rfl
  rw [e]
  rfl
def bBegin : List IS := [.set (.nm 1) (.ifx (.cmp .ne (.slot 0) (.lst [])) (.bi .list [.slot 0]) (.lst [.cst (.int 0)])), .ret (.dic ["cells", "lefts", "at"] [.slot 1, .lc [2] (.nm 2) .seq [.slot 1] [] (.ifx (.cmp .ge (.slot 2) (.bin .pow (.cst (.int 10)) (.cst (.int 18)))) (.slot 2) (.cst (.int 0))), .cst (.int 0)])]
def fBegin : Fn := ⟨1, 3, false, bBegin⟩
theorem begin_ok {T : Tab} {n fb : Nat} {ns : List Int} (hf : T.fns[fb]? = some fBegin) (hl : ns.length ≤ 63) : Wp (run T (n + 1) fb 0 [.ref 0] [.frz (ns.map .int)]) fun d S' => d = .ref 3 ∧ ∃ b : Bs, b.ok ∧ b.t = 0 ∧ S' = b.sto := by
  refine wp_run hf rfl (wp_b ?_)
  have fin : ∀ (cells : List Int) (C : Cx), 0 < cells.length → cells.length ≤ 63 → C.lo = 0 → Wp (evB C [.ret (.dic ["cells", "lefts", "at"] [.slot 1, .lc [2] (.nm 2) .seq [.slot 1] [] (.ifx (.cmp .ge (.slot 2) (.bin .pow (.cst (.int 10)) (.cst (.int 18)))) (.slot 2) (.cst (.int 0))), .cst (.int 0)])] [some (.ref 0), some (.ref 2), none] [.frz (ns.map .int), .lst [], .lst (cells.map .int)])
      (fun fl S' => fl = .rt (.ref 3) ∧ ∃ b : Bs, b.ok ∧ b.t = 0 ∧ S' = b.sto) := by
    intro cells C h0 h63 hlo
    refine wp_b ?_
    have e : evE C (.lc [2] (.nm 2) .seq [.slot 1] [] (.ifx (.cmp .ge (.slot 2) (.bin .pow (.cst (.int 10)) (.cst (.int 18)))) (.slot 2) (.cst (.int 0)))) [some (.ref 0), some (.ref 2), none] [.frz (ns.map .int), .lst [], .lst (cells.map .int), .dic []] =
        .ok (.ref 4) [.frz (ns.map .int), .lst [], .lst (cells.map .int), .dic [], .lst ((cells.map fun c : Int => if 10 ^ 18 ≤ c then c else 0).map .int)] := by
      rw [lc_eval (S1 := [.frz (ns.map .int), .lst [], .lst (cells.map .int), .dic []]) (ds := [.ref 2]) (src := .lst 2) rfl rfl]
      show lcL (.lst 2) 4 (lcTurn C [2] (.nm 2) [] _ _) ((cells.map D.int).length + 1) 0 ([.frz (ns.map .int), .lst [], .lst (cells.map .int), .dic []] ++ [.lst []]) = _
      rw [lc_lst (a := 2) (n := 4) (S := [.frz (ns.map .int), .lst [], .lst (cells.map .int), .dic []]) (xs := cells.map .int) (g := fun d => match d with | .int c => .int (if 10 ^ 18 ≤ c then c else 0) | d => d) rfl rfl (by rw [List.length_map, sizeLine_eq]; omega) ?_]
      · rw [List.map_map, List.map_map]
        rfl
      · intro d hd acc
        obtain ⟨c, _, rfl⟩ := List.mem_map.mp hd
        have c3 : (10 : Int).natAbs < 2 ^ 64 := by decide
        have c4 : (18 : Int) ≤ 1000000 := by decide
        have c5 : (0 : Int) ≤ 18 := by decide
        have e0 : ∀ S, evE C (.ifx (.cmp .ge (.slot 2) (.bin .pow (.cst (.int 10)) (.cst (.int 18)))) (.slot 2) (.cst (.int 0))) [some (.ref 0), some (.ref 2), some (.int c)] S = .ok (.int (if 10 ^ 18 ≤ c then c else 0)) S := by
          intro S
          have e18 : (18 : Int).toNat = 18 := rfl
          simp only [q_slot, q_cst, q_glo, q_tup, q_lst, q_dic, q_bin, q_neg, q_not, q_cmp, q_ifx, q_isi, q_bi, q_call, q_callk, q_idx, q_slc, q_append, q_extend, q_and, q_or, q_nil, q_cons, q_none, q_some, q_and1, q_and2, q_andT, q_andF, q_andB, q_or1, q_or2, q_orB, q_tval, q_tnot, q_tand, q_tor, q_tcmp, q_tand1, q_tand2, q_tor1, q_tor2, q_cnil, q_ccons, q_set, q_par, q_setix, q_ex, q_ret, q_retN, q_iff, q_pass, q_brk, q_cont, q_bnil, q_nextN, q_nextR, q_nextK, q_nextC, q_bok, q_getS, q_getO, q_t0, q_t1, q_t2, q_t3, q_t4, q_l0, q_l1, q_l2, q_l3, q_l4, q_l5, q_l6, q_l8, q_negI, q_notS, q_okB, q_okI, q_nxO, q_nxS, q_mkNon, q_iteT, q_iteF, q_ofB, q_addI, q_subI, q_mulI, q_fdivI, q_modI, q_powI, q_addT, q_eqI, q_neI, q_ltI, q_leI, q_gtI, q_geI, q_eqB, q_neB, q_eqS, q_neS, q_isB, q_isnB, q_isN, q_isnN, q_truB, q_truI, q_isiI, q_isiB, q_isiS, q_isiT, q_isiN, q_lenT, q_gcd, q_abs, q_max, q_min, q_int, q_tupT, q_listT, q_ixT, q_ixL, q_at0, q_at1, q_at2, q_at3, q_at4, q_nm, q_tp, q_asn, q_asc, q_pn, q_pc, wp_bind, wp_ok, List.map_cons, List.map_nil, List.replicate, List.cons_append, List.nil_append, List.append_nil, List.getElem?_cons_zero, List.getElem?_cons_succ, List.set_cons_zero, List.set_cons_succ, List.length_cons, List.length_nil, if_true, if_false, Nat.reduceAdd, Nat.reduceSub, Nat.reduceLT, Nat.reduceLeDiff, Nat.zero_add, Nat.lt_add_one, Nat.zero_lt_succ, decide_true, decide_false, Bool.not_true, Bool.not_false, ne_eq, not_false_eq_true, not_true_eq_false, Int.reduceEq, Int.reduceNe, Int.reduceLT, Int.reduceLE, Int.reduceNeg, Int.reduceToNat, Nat.reducePow, Nat.reduceEqDiff, Bool.false_eq_true, List.any_cons, List.any_nil, Bool.or_false, Bool.or_true, Bool.false_or, Bool.true_or, Ty.sub, Int.cast_ofNat_Int, Int.natCast_zero, Int.natCast_one, eq_self, c3, c4, c5, e18]
          by_cases h : (10 : Int) ^ 18 ≤ c
          · rw [decide_eq_true h, if_pos h]; rfl
          · rw [decide_eq_false h, if_neg h]; rfl
          done
        exact turn_all rfl (e0 _)
    have e' : evs C [.slot 1, .lc [2] (.nm 2) .seq [.slot 1] [] (.ifx (.cmp .ge (.slot 2) (.bin .pow (.cst (.int 10)) (.cst (.int 18)))) (.slot 2) (.cst (.int 0))), .cst (.int 0)] [some (.ref 0), some (.ref 2), none] [.frz (ns.map .int), .lst [], .lst (cells.map .int), .dic []] =
        .ok [.ref 2, .ref 4, .int 0] [.frz (ns.map .int), .lst [], .lst (cells.map .int), .dic [], .lst ((cells.map fun c : Int => if 10 ^ 18 ≤ c then c else 0).map .int)] := by
      rw [q_cons, q_slot]
      show Out.bind (evs C [.lc [2] (.nm 2) .seq [.slot 1] [] _, .cst (.int 0)] _ _) _ = _
      rw [q_cons, e]
      rfl
    refine Wp.of (a := .rt (.ref 3)) (S := Bs.sto ⟨ns.map .int, cells, cells.map fun c : Int => if 10 ^ 18 ≤ c then c else 0, 0⟩) ?_ ⟨rfl, ⟨ns.map .int, cells, cells.map fun c : Int => if 10 ^ 18 ≤ c then c else 0, 0⟩, ⟨by simp only [List.length_map], h0⟩, rfl, rfl⟩
    rw [q_ret, q_dic]
    show Out.bind (Out.bind (evs C _ _ [.frz (ns.map .int), .lst [], .lst (cells.map .int), .dic []]) _) _ = _
    rw [e']
    rfl
  simp only [q_slot, q_cst, q_glo, q_tup, q_lst, q_dic, q_bin, q_neg, q_not, q_cmp, q_ifx, q_isi, q_bi, q_call, q_callk, q_idx, q_slc, q_append, q_extend, q_and, q_or, q_nil, q_cons, q_none, q_some, q_and1, q_and2, q_andT, q_andF, q_andB, q_or1, q_or2, q_orB, q_tval, q_tnot, q_tand, q_tor, q_tcmp, q_tand1, q_tand2, q_tor1, q_tor2, q_cnil, q_ccons, q_set, q_par, q_setix, q_ex, q_ret, q_retN, q_iff, q_pass, q_brk, q_cont, q_bnil, q_nextN, q_nextR, q_nextK, q_nextC, q_bok, q_getS, q_getO, q_t0, q_t1, q_t2, q_t3, q_t4, q_l0, q_l1, q_l2, q_l3, q_l4, q_l5, q_l6, q_l8, q_negI, q_notS, q_okB, q_okI, q_nxO, q_nxS, q_mkNon, q_iteT, q_iteF, q_ofB, q_addI, q_subI, q_mulI, q_fdivI, q_modI, q_powI, q_addT, q_eqI, q_neI, q_ltI, q_leI, q_gtI, q_geI, q_eqB, q_neB, q_eqS, q_neS, q_isB, q_isnB, q_isN, q_isnN, q_truB, q_truI, q_isiI, q_isiB, q_isiS, q_isiT, q_isiN, q_lenT, q_gcd, q_abs, q_max, q_min, q_int, q_tupT, q_listT, q_ixT, q_ixL, q_at0, q_at1, q_at2, q_at3, q_at4, q_nm, q_tp, q_asn, q_asc, q_pn, q_pc, wp_bind, wp_ok, List.map_cons, List.map_nil, List.replicate, List.cons_append, List.nil_append, List.append_nil, List.getElem?_cons_zero, List.getElem?_cons_succ, List.set_cons_zero, List.set_cons_succ, List.length_cons, List.length_nil, if_true, if_false, Nat.reduceAdd, Nat.reduceSub, Nat.reduceLT, Nat.reduceLeDiff, Nat.zero_add, Nat.lt_add_one, Nat.zero_lt_succ, decide_true, decide_false, Bool.not_true, Bool.not_false, ne_eq, not_false_eq_true, not_true_eq_false, Int.reduceEq, Int.reduceNe, Int.reduceLT, Int.reduceLE, Int.reduceNeg, Int.reduceToNat, Nat.reducePow, Nat.reduceEqDiff, Bool.false_eq_true, List.any_cons, List.any_nil, Bool.or_false, Bool.or_true, Bool.false_or, Bool.true_or, Ty.sub, Int.cast_ofNat_Int, Int.natCast_zero, Int.natCast_one, eq_self, fBegin, ne_nil]
  by_cases h : ns = []
  · subst h
    simp only [q_slot, q_cst, q_glo, q_tup, q_lst, q_dic, q_bin, q_neg, q_not, q_cmp, q_ifx, q_isi, q_bi, q_call, q_callk, q_idx, q_slc, q_append, q_extend, q_and, q_or, q_nil, q_cons, q_none, q_some, q_and1, q_and2, q_andT, q_andF, q_andB, q_or1, q_or2, q_orB, q_tval, q_tnot, q_tand, q_tor, q_tcmp, q_tand1, q_tand2, q_tor1, q_tor2, q_cnil, q_ccons, q_set, q_par, q_setix, q_ex, q_ret, q_retN, q_iff, q_pass, q_brk, q_cont, q_bnil, q_nextN, q_nextR, q_nextK, q_nextC, q_bok, q_getS, q_getO, q_t0, q_t1, q_t2, q_t3, q_t4, q_l0, q_l1, q_l2, q_l3, q_l4, q_l5, q_l6, q_l8, q_negI, q_notS, q_okB, q_okI, q_nxO, q_nxS, q_mkNon, q_iteT, q_iteF, q_ofB, q_addI, q_subI, q_mulI, q_fdivI, q_modI, q_powI, q_addT, q_eqI, q_neI, q_ltI, q_leI, q_gtI, q_geI, q_eqB, q_neB, q_eqS, q_neS, q_isB, q_isnB, q_isN, q_isnN, q_truB, q_truI, q_isiI, q_isiB, q_isiS, q_isiT, q_isiN, q_lenT, q_gcd, q_abs, q_max, q_min, q_int, q_tupT, q_listT, q_ixT, q_ixL, q_at0, q_at1, q_at2, q_at3, q_at4, q_nm, q_tp, q_asn, q_asc, q_pn, q_pc, wp_bind, wp_ok, List.map_cons, List.map_nil, List.replicate, List.cons_append, List.nil_append, List.append_nil, List.getElem?_cons_zero, List.getElem?_cons_succ, List.set_cons_zero, List.set_cons_succ, List.length_cons, List.length_nil, if_true, if_false, Nat.reduceAdd, Nat.reduceSub, Nat.reduceLT, Nat.reduceLeDiff, Nat.zero_add, Nat.lt_add_one, Nat.zero_lt_succ, decide_true, decide_false, Bool.not_true, Bool.not_false, ne_eq, not_false_eq_true, not_true_eq_false, Int.reduceEq, Int.reduceNe, Int.reduceLT, Int.reduceLE, Int.reduceNeg, Int.reduceToNat, Nat.reducePow, Nat.reduceEqDiff, Bool.false_eq_true, List.any_cons, List.any_nil, Bool.or_false, Bool.or_true, Bool.false_or, Bool.true_or, Ty.sub, Int.cast_ofNat_Int, Int.natCast_zero, Int.natCast_one, eq_self]
    refine (fin [0] _ (by decide) (by decide) rfl).imp fun fl S' ⟨e1, b, b1, b2, b3⟩ => ?_
    subst e1 b3
    exact wp_ok.mpr ⟨rfl, b, b1, b2, rfl⟩
  · have e1 : bifn .list [.ref 0] [.frz (ns.map .int), .lst []] = .ok (.ref 2) [.frz (ns.map .int), .lst [], .lst (ns.map .int)] := rfl
    simp only [q_slot, q_cst, q_glo, q_tup, q_lst, q_dic, q_bin, q_neg, q_not, q_cmp, q_ifx, q_isi, q_bi, q_call, q_callk, q_idx, q_slc, q_append, q_extend, q_and, q_or, q_nil, q_cons, q_none, q_some, q_and1, q_and2, q_andT, q_andF, q_andB, q_or1, q_or2, q_orB, q_tval, q_tnot, q_tand, q_tor, q_tcmp, q_tand1, q_tand2, q_tor1, q_tor2, q_cnil, q_ccons, q_set, q_par, q_setix, q_ex, q_ret, q_retN, q_iff, q_pass, q_brk, q_cont, q_bnil, q_nextN, q_nextR, q_nextK, q_nextC, q_bok, q_getS, q_getO, q_t0, q_t1, q_t2, q_t3, q_t4, q_l0, q_l1, q_l2, q_l3, q_l4, q_l5, q_l6, q_l8, q_negI, q_notS, q_okB, q_okI, q_nxO, q_nxS, q_mkNon, q_iteT, q_iteF, q_ofB, q_addI, q_subI, q_mulI, q_fdivI, q_modI, q_powI, q_addT, q_eqI, q_neI, q_ltI, q_leI, q_gtI, q_geI, q_eqB, q_neB, q_eqS, q_neS, q_isB, q_isnB, q_isN, q_isnN, q_truB, q_truI, q_isiI, q_isiB, q_isiS, q_isiT, q_isiN, q_lenT, q_gcd, q_abs, q_max, q_min, q_int, q_tupT, q_listT, q_ixT, q_ixL, q_at0, q_at1, q_at2, q_at3, q_at4, q_nm, q_tp, q_asn, q_asc, q_pn, q_pc, wp_bind, wp_ok, List.map_cons, List.map_nil, List.replicate, List.cons_append, List.nil_append, List.append_nil, List.getElem?_cons_zero, List.getElem?_cons_succ, List.set_cons_zero, List.set_cons_succ, List.length_cons, List.length_nil, if_true, if_false, Nat.reduceAdd, Nat.reduceSub, Nat.reduceLT, Nat.reduceLeDiff, Nat.zero_add, Nat.lt_add_one, Nat.zero_lt_succ, decide_true, decide_false, Bool.not_true, Bool.not_false, ne_eq, not_false_eq_true, not_true_eq_false, Int.reduceEq, Int.reduceNe, Int.reduceLT, Int.reduceLE, Int.reduceNeg, Int.reduceToNat, Nat.reducePow, Nat.reduceEqDiff, Bool.false_eq_true, List.any_cons, List.any_nil, Bool.or_false, Bool.or_true, Bool.false_or, Bool.true_or, Ty.sub, Int.cast_ofNat_Int, Int.natCast_zero, Int.natCast_one, eq_self, h, e1]
    refine (fin ns _ (List.length_pos_iff.mpr h) hl rfl).imp fun fl S' ⟨e1, b, b1, b2, b3⟩ => ?_
    subst e1 b3
    exact wp_ok.mpr ⟨rfl, b, b1, b2, rfl⟩
end Pd
namespace Pd
open PySem
/-! ### one of a row -/
theorem len_items {S : Sto} {d : D} {xs : List D} (h : items S d = some xs) : bifn .len [d] S = .ok (.int xs.length) S := by
  cases d with
  | tup ys => obtain rfl := Option.some.inj (show some ys = some xs from h); rfl
  | ref n => exact lenL h
  | _ => cases h
theorem ix_items {S : Sto} {d : D} {xs : List D} {i : Int} (h : items S d = some xs) : index d (.int i) S = getO (L2.atI xs i) S := by
  cases d with
  | tup ys => obtain rfl := Option.some.inj (show some ys = some xs from h); exact q_ixT
  | ref n => exact q_ixL h
  | _ => cases h
def bOf (fd : Nat) : List IS := [.ret (.idx (.slot 1) (.call fd [.slot 0, .bi .len [.slot 1]]))]
def fOf (fd : Nat) : Fn := ⟨2, 2, false, bOf fd⟩
theorem of_ok {T : Tab} {n fo fd fm : Nat} {R : Sto} {b : Bs} {d : D} {xs : List D} (ho : T.fns[fo]? = some (fOf fd)) (hd : T.fns[fd]? = some (fDraw fm)) (hm : T.fns[fm]? = some fMixed) (hb : b.ok) (ht : b.t < 2 ^ 60)
    (hx : ∀ b : Bs, items (b.sto ++ R) d = some xs) (h1 : 0 < xs.length) (h2 : xs.length < 2 ^ 60) :
    Wp (run T (n + 3) fo 0 [.ref 3, d] (b.sto ++ R)) fun x S' => x ∈ xs ∧ ∃ b' : Bs, S' = b'.sto ++ R ∧ b'.ok ∧ b'.t = b.t + 1 := by
  refine wp_run ho rfl (wp_b ?_)
  simp only [q_slot, q_cst, q_glo, q_tup, q_lst, q_dic, q_bin, q_neg, q_not, q_cmp, q_ifx, q_isi, q_bi, q_call, q_callk, q_idx, q_slc, q_append, q_extend, q_and, q_or, q_nil, q_cons, q_none, q_some, q_and1, q_and2, q_andT, q_andF, q_andB, q_or1, q_or2, q_orB, q_tval, q_tnot, q_tand, q_tor, q_tcmp, q_tand1, q_tand2, q_tor1, q_tor2, q_cnil, q_ccons, q_set, q_par, q_setix, q_ex, q_ret, q_retN, q_iff, q_pass, q_brk, q_cont, q_bnil, q_nextN, q_nextR, q_nextK, q_nextC, q_bok, q_getS, q_getO, q_t0, q_t1, q_t2, q_t3, q_t4, q_l0, q_l1, q_l2, q_l3, q_l4, q_l5, q_l6, q_l8, q_negI, q_notS, q_okB, q_okI, q_nxO, q_nxS, q_mkNon, q_iteT, q_iteF, q_ofB, q_addI, q_subI, q_mulI, q_fdivI, q_modI, q_powI, q_addT, q_eqI, q_neI, q_ltI, q_leI, q_gtI, q_geI, q_eqB, q_neB, q_eqS, q_neS, q_isB, q_isnB, q_isN, q_isnN, q_truB, q_truI, q_isiI, q_isiB, q_isiS, q_isiT, q_isiN, q_lenT, q_gcd, q_abs, q_max, q_min, q_int, q_tupT, q_listT, q_ixT, q_ixL, q_at0, q_at1, q_at2, q_at3, q_at4, q_nm, q_tp, q_asn, q_asc, q_pn, q_pc, wp_bind, wp_ok, List.map_cons, List.map_nil, List.replicate, List.cons_append, List.nil_append, List.append_nil, List.getElem?_cons_zero, List.getElem?_cons_succ, List.set_cons_zero, List.set_cons_succ, List.length_cons, List.length_nil, if_true, if_false, Nat.reduceAdd, Nat.reduceSub, Nat.reduceLT, Nat.reduceLeDiff, Nat.zero_add, Nat.lt_add_one, Nat.zero_lt_succ, decide_true, decide_false, Bool.not_true, Bool.not_false, ne_eq, not_false_eq_true, not_true_eq_false, Int.reduceEq, Int.reduceNe, Int.reduceLT, Int.reduceLE, Int.reduceNeg, Int.reduceToNat, Nat.reducePow, Nat.reduceEqDiff, Bool.false_eq_true, List.any_cons, List.any_nil, Bool.or_false, Bool.or_true, Bool.false_or, Bool.true_or, Ty.sub, Int.cast_ofNat_Int, Int.natCast_zero, Int.natCast_one, eq_self, fOf, len_items (hx b)]
  have b1 : Bt 8000 (xs.length : Int) := Bt.mono (k := 60) (.of (by omega) (by omega)) (by decide)
  refine (draw_ok hd hm hb ht (by omega) b1).imp fun x S' ⟨v, b', e1, v0, v1, e2, b2, b3⟩ => ?_
  subst e1 e2
  obtain ⟨y, hy, e⟩ := atI_in v0 v1
  simp only [q_slot, q_cst, q_glo, q_tup, q_lst, q_dic, q_bin, q_neg, q_not, q_cmp, q_ifx, q_isi, q_bi, q_call, q_callk, q_idx, q_slc, q_append, q_extend, q_and, q_or, q_nil, q_cons, q_none, q_some, q_and1, q_and2, q_andT, q_andF, q_andB, q_or1, q_or2, q_orB, q_tval, q_tnot, q_tand, q_tor, q_tcmp, q_tand1, q_tand2, q_tor1, q_tor2, q_cnil, q_ccons, q_set, q_par, q_setix, q_ex, q_ret, q_retN, q_iff, q_pass, q_brk, q_cont, q_bnil, q_nextN, q_nextR, q_nextK, q_nextC, q_bok, q_getS, q_getO, q_t0, q_t1, q_t2, q_t3, q_t4, q_l0, q_l1, q_l2, q_l3, q_l4, q_l5, q_l6, q_l8, q_negI, q_notS, q_okB, q_okI, q_nxO, q_nxS, q_mkNon, q_iteT, q_iteF, q_ofB, q_addI, q_subI, q_mulI, q_fdivI, q_modI, q_powI, q_addT, q_eqI, q_neI, q_ltI, q_leI, q_gtI, q_geI, q_eqB, q_neB, q_eqS, q_neS, q_isB, q_isnB, q_isN, q_isnN, q_truB, q_truI, q_isiI, q_isiB, q_isiS, q_isiT, q_isiN, q_lenT, q_gcd, q_abs, q_max, q_min, q_int, q_tupT, q_listT, q_ixT, q_ixL, q_at0, q_at1, q_at2, q_at3, q_at4, q_nm, q_tp, q_asn, q_asc, q_pn, q_pc, wp_bind, wp_ok, List.map_cons, List.map_nil, List.replicate, List.cons_append, List.nil_append, List.append_nil, List.getElem?_cons_zero, List.getElem?_cons_succ, List.set_cons_zero, List.set_cons_succ, List.length_cons, List.length_nil, if_true, if_false, Nat.reduceAdd, Nat.reduceSub, Nat.reduceLT, Nat.reduceLeDiff, Nat.zero_add, Nat.lt_add_one, Nat.zero_lt_succ, decide_true, decide_false, Bool.not_true, Bool.not_false, ne_eq, not_false_eq_true, not_true_eq_false, Int.reduceEq, Int.reduceNe, Int.reduceLT, Int.reduceLE, Int.reduceNeg, Int.reduceToNat, Nat.reducePow, Nat.reduceEqDiff, Bool.false_eq_true, List.any_cons, List.any_nil, Bool.or_false, Bool.or_true, Bool.false_or, Bool.true_or, Ty.sub, Int.cast_ofNat_Int, Int.natCast_zero, Int.natCast_one, eq_self, ix_items (hx b'), e]
  exact ⟨_, _, rfl, hy, b', rfl, b2, b3⟩
/-! ### what is shown -/
mutual
def cost : PyData → Nat
  | .none => 4
  | .bool _ => 5
  | .int _ => 1921
  | .str _ => 0
  | .list xs => 2 + costs xs
  | .tuple xs => 3 + costs xs
  | .dict _ => 0
def costs : List PyData → Nat
  | [] => 0
  | x :: xs => cost x + 2 + costs xs
end
mutual
/-- no text, no dict -/
def bare : PyData → Bool
  | .str _ => false
  | .dict _ => false
  | .list xs => bares xs
  | .tuple xs => bares xs
  | _ => true
def bares : List PyData → Bool
  | [] => true
  | x :: xs => bare x && bares xs
end
def lens : List Str → Nat
  | [] => 0
  | t :: r => t.length + 2 + lens r
theorem from_len : ∀ (ts : List Str) (k : Nat) (acc : Str), (textFrom k acc ts).length ≤ acc.length + lens ts
  | [], k, acc => by show acc.length ≤ _; unfold lens; omega
  | t :: r, k, acc => by
    have h := from_len r (k + 1) (acc ++ (if k > 0 then ", " else "" : String) ++ t)
    have e : (acc ++ (if k > 0 then ", " else "" : String) ++ t).length ≤ acc.length + 2 + t.length := by
      rw [strLen_append, strLen_append]
      by_cases q : k > 0
      · rw [if_pos q]; show _ + 2 + _ ≤ _; omega
      · rw [if_neg q]; show _ + 0 + _ ≤ _; omega
    show (textFrom (k + 1) (acc ++ (if k > 0 then ", " else "" : String) ++ t) r).length ≤ _
    unfold lens
    omega
theorem join_len : ∀ ts : List Str, (Str.join ", " ts).length ≤ lens ts
  | [] => Nat.le_refl _
  | [x] => by show x.length ≤ _; unfold lens; omega
  | x :: y :: r => by
    have ih := join_len (y :: r)
    show (x ++ ", " ++ Str.join ", " (y :: r)).length ≤ _
    rw [strLen_append, strLen_append]
    have e2 : ((", " : String) : Str).length = 2 := rfl
    rw [e2]
    unfold lens
    omega
mutual
theorem shown_le : ∀ p : PyData, p.showable = true → bare p = true → p.shown.length ≤ cost p
  | .none, _, _ => by unfold PyData.shown cost; decide
  | .bool b, _, _ => by unfold PyData.shown cost; cases b <;> decide
  | .int i, h, _ => by
    unfold PyData.showable at h
    unfold PyData.shown cost
    exact PyProof.Rows.int_text_len_1921 (of_decide_eq_true h)
  | .str _, _, h => by unfold bare at h; cases h
  | .dict _, _, h => by unfold bare at h; cases h
  | .list xs, h, g => by
    unfold PyData.showable at h
    unfold bare at g
    unfold PyData.shown cost listText
    have h1 := shown_les xs h g
    have h2 := from_len (PyData.shownAll xs) 0 "["
    rw [strLen_append]
    have e1 : (("[" : String) : Str).length = 1 := rfl
    have e2 : (("]" : String) : Str).length = 1 := rfl
    omega
  | .tuple xs, h, g => by
    unfold PyData.showable at h
    unfold bare at g
    unfold PyData.shown cost tupleText
    have h1 := shown_les xs h g
    have h2 := join_len (PyData.shownAll xs)
    rw [strLen_append, strLen_append]
    have e1 : (("(" : String) : Str).length = 1 := rfl
    have e2 : ((if (PyData.shownAll xs).length == 1 then ",)" else ")" : String) : Str).length ≤ 2 := by
      cases ((PyData.shownAll xs).length == 1) <;> decide
    omega
theorem shown_les : ∀ ps : List PyData, PyData.showableAll ps = true → bares ps = true → lens (PyData.shownAll ps) ≤ costs ps
  | [], _, _ => by unfold PyData.shownAll lens costs; omega
  | p :: ps, h, g => by
    unfold PyData.showableAll at h
    unfold bares at g
    obtain ⟨h1, h2⟩ := Bool.and_eq_true_iff.mp h
    obtain ⟨g1, g2⟩ := Bool.and_eq_true_iff.mp g
    have a := shown_le p h1 g1
    have b := shown_les ps h2 g2
    unfold PyData.shownAll lens costs
    omega
end
def bLike : List IS := [.ret (.cmp .eq (.bi .repr [.slot 0]) (.bi .repr [.slot 1]))]
def fLike : Fn := ⟨2, 2, true, bLike⟩
theorem repr_ok {S : Sto} {a : D} {p : PyData} (ha : dump S 60 a = some p) (hs : p.showable = true) (hb : bare p = true) (hc : cost p ≤ 16777216) : bifn .repr [a] S = .ok (.str p.shown) S := by
  show bRepr [a] S = _
  unfold bRepr
  dsimp only
  rw [ha]
  exact if_pos ⟨hs, by rw [sizeLine_eq]; exact Nat.le_trans (shown_le p hs hb) hc⟩
theorem like_ok {T : Tab} {n fl lo : Nat} {S : Sto} {a b : D} {p : PyData} (hf : T.fns[fl]? = some fLike) (ha : dump S 60 a = some p) (hb : dump S 60 b = some p) (hs : p.showable = true) (h1 : bare p = true) (h2 : cost p ≤ 16777216) :
    run T (n + 1) fl lo [a, b] S = .ok (.bl true) S := by
  have : Wp (run T (n + 1) fl lo [a, b] S) fun d S' => d = .bl true ∧ S' = S := by
    refine wp_run hf rfl (wp_b ?_)
    simp only [q_slot, q_cst, q_glo, q_tup, q_lst, q_dic, q_bin, q_neg, q_not, q_cmp, q_ifx, q_isi, q_bi, q_call, q_callk, q_idx, q_slc, q_append, q_extend, q_and, q_or, q_nil, q_cons, q_none, q_some, q_and1, q_and2, q_andT, q_andF, q_andB, q_or1, q_or2, q_orB, q_tval, q_tnot, q_tand, q_tor, q_tcmp, q_tand1, q_tand2, q_tor1, q_tor2, q_cnil, q_ccons, q_set, q_par, q_setix, q_ex, q_ret, q_retN, q_iff, q_pass, q_brk, q_cont, q_bnil, q_nextN, q_nextR, q_nextK, q_nextC, q_bok, q_getS, q_getO, q_t0, q_t1, q_t2, q_t3, q_t4, q_l0, q_l1, q_l2, q_l3, q_l4, q_l5, q_l6, q_l8, q_negI, q_notS, q_okB, q_okI, q_nxO, q_nxS, q_mkNon, q_iteT, q_iteF, q_ofB, q_addI, q_subI, q_mulI, q_fdivI, q_modI, q_powI, q_addT, q_eqI, q_neI, q_ltI, q_leI, q_gtI, q_geI, q_eqB, q_neB, q_eqS, q_neS, q_isB, q_isnB, q_isN, q_isnN, q_truB, q_truI, q_isiI, q_isiB, q_isiS, q_isiT, q_isiN, q_lenT, q_gcd, q_abs, q_max, q_min, q_int, q_tupT, q_listT, q_ixT, q_ixL, q_at0, q_at1, q_at2, q_at3, q_at4, q_nm, q_tp, q_asn, q_asc, q_pn, q_pc, wp_bind, wp_ok, List.map_cons, List.map_nil, List.replicate, List.cons_append, List.nil_append, List.append_nil, List.getElem?_cons_zero, List.getElem?_cons_succ, List.set_cons_zero, List.set_cons_succ, List.length_cons, List.length_nil, if_true, if_false, Nat.reduceAdd, Nat.reduceSub, Nat.reduceLT, Nat.reduceLeDiff, Nat.zero_add, Nat.lt_add_one, Nat.zero_lt_succ, decide_true, decide_false, Bool.not_true, Bool.not_false, ne_eq, not_false_eq_true, not_true_eq_false, Int.reduceEq, Int.reduceNe, Int.reduceLT, Int.reduceLE, Int.reduceNeg, Int.reduceToNat, Nat.reducePow, Nat.reduceEqDiff, Bool.false_eq_true, List.any_cons, List.any_nil, Bool.or_false, Bool.or_true, Bool.false_or, Bool.true_or, Ty.sub, Int.cast_ofNat_Int, Int.natCast_zero, Int.natCast_one, eq_self, fLike, repr_ok ha hs h1 h2, repr_ok hb hs h1 h2]
    exact wp_keepP rfl take_self ⟨rfl, rfl⟩
  obtain ⟨d, S', e, rfl, rfl⟩ := this
  exact e
end Pd
/-! Fractions in least terms, in plain integers. -/
namespace Pd
open PySem
def Fr (x : Int × Int) : Prop := 0 < x.2 ∧ gcdI x.1 x.2 = 1
def red (a b : Int) : Int × Int := (a.fdiv (if b < 0 then -gcdI a b else gcdI a b), b.fdiv (if b < 0 then -gcdI a b else gcdI a b))
theorem gcd_pos {a b : Int} (h : b ≠ 0) : 0 < gcdI a b := by
  unfold gcdI
  have : 0 < Nat.gcd a.natAbs b.natAbs := Nat.gcd_pos_of_pos_right _ (by omega)
  omega
theorem gcd_dl {a b : Int} : gcdI a b ∣ a := by
  show ((Int.gcd a b : Nat) : Int) ∣ a
  exact Int.gcd_dvd_left ..
theorem gcd_dr {a b : Int} : gcdI a b ∣ b := by
  show ((Int.gcd a b : Nat) : Int) ∣ b
  exact Int.gcd_dvd_right ..
theorem red_spec {a b : Int} (hb : b ≠ 0) : ∃ c : Int, c ≠ 0 ∧ a = c * (red a b).1 ∧ b = c * (red a b).2 ∧ Fr (red a b) := by
  have hg := gcd_pos (a := a) hb
  generalize hc : (if b < 0 then -gcdI a b else gcdI a b) = c
  have c0 : c ≠ 0 := by rw [← hc]; split <;> omega
  have da : c ∣ a := by rw [← hc]; split; exact (Int.neg_dvd).mpr gcd_dl; exact gcd_dl
  have db : c ∣ b := by rw [← hc]; split; exact (Int.neg_dvd).mpr gcd_dr; exact gcd_dr
  have ea : a = c * (red a b).1 := by unfold red; rw [hc, Int.mul_comm]; exact (Int.fdiv_mul_cancel da).symm
  have eb : b = c * (red a b).2 := by unfold red; rw [hc, Int.mul_comm]; exact (Int.fdiv_mul_cancel db).symm
  refine ⟨c, c0, ea, eb, ?_, ?_⟩
  · by_cases h : b < 0
    · have cn : c < 0 := by rw [← hc, if_pos h]; omega
      rcases Int.lt_trichotomy (red a b).2 0 with q | q | q
      · have := Int.mul_pos_of_neg_of_neg cn q
        omega
      · rw [q] at eb; omega
      · exact q
    · have cp : 0 < c := by rw [← hc, if_neg h]; omega
      have b0 : 0 < b := by omega
      rcases Int.lt_trichotomy (red a b).2 0 with q | q | q
      · have := Int.mul_neg_of_pos_of_neg cp q
        omega
      · rw [q] at eb; omega
      · exact q
  · have hca : c.natAbs = Nat.gcd a.natAbs b.natAbs := by
      rw [← hc]
      unfold gcdI
      split
      · rw [Int.natAbs_neg]; rfl
      · rfl
    have e1 : a.natAbs = c.natAbs * (red a b).1.natAbs := by rw [← Int.natAbs_mul, ← ea]
    have e2 : b.natAbs = c.natAbs * (red a b).2.natAbs := by rw [← Int.natAbs_mul, ← eb]
    have e3 : Nat.gcd a.natAbs b.natAbs = c.natAbs * Nat.gcd (red a b).1.natAbs (red a b).2.natAbs := by
      have : Nat.gcd a.natAbs b.natAbs = Nat.gcd (c.natAbs * (red a b).1.natAbs) (c.natAbs * (red a b).2.natAbs) := by rw [← e1, ← e2]
      rw [this, Nat.gcd_mul_left]
    unfold gcdI
    have cp : 0 < c.natAbs := by omega
    have : c.natAbs * Nat.gcd (red a b).1.natAbs (red a b).2.natAbs = c.natAbs * 1 := by rw [← e3, Nat.mul_one, hca]
    rw [Nat.eq_of_mul_eq_mul_left cp this]
    rfl
theorem red_fr {a b : Int} (hb : b ≠ 0) : Fr (red a b) := by obtain ⟨c, _, _, _, h⟩ := red_spec (a := a) hb; exact h
theorem frac_uniq {p q p' q' : Int} (h : Fr (p, q)) (h' : Fr (p', q')) (e : p * q' = p' * q) : (p, q) = (p', q') := by
  obtain ⟨hq, hg⟩ := h
  obtain ⟨hq', hg'⟩ := h'
  dsimp only at hq hg hq' hg'
  unfold gcdI at hg hg'
  have c1 : Nat.Coprime q.natAbs p.natAbs := by
    have : Nat.gcd p.natAbs q.natAbs = 1 := by omega
    rw [Nat.coprime_comm]; exact this
  have c2 : Nat.Coprime q'.natAbs p'.natAbs := by
    have : Nat.gcd p'.natAbs q'.natAbs = 1 := by omega
    rw [Nat.coprime_comm]; exact this
  have e1 : p.natAbs * q'.natAbs = p'.natAbs * q.natAbs := by rw [← Int.natAbs_mul, ← Int.natAbs_mul, e]
  have d1 : q.natAbs ∣ q'.natAbs := c1.dvd_of_dvd_mul_left (by rw [e1]; exact Nat.dvd_mul_left _ _)
  have d2 : q'.natAbs ∣ q.natAbs := c2.dvd_of_dvd_mul_left (by rw [← e1]; exact Nat.dvd_mul_left _ _)
  have eq : q.natAbs = q'.natAbs := Nat.dvd_antisymm d1 d2
  have eq2 : q = q' := by omega
  subst eq2
  have : p = p' := Int.eq_of_mul_eq_mul_right (by omega) e
  rw [this]
theorem red_eq {a b : Int} {x : Int × Int} (hb : b ≠ 0) (h : Fr x) (e : a * x.2 = x.1 * b) : red a b = x := by
  obtain ⟨c, c0, ea, eb, hf⟩ := red_spec (a := a) hb
  obtain ⟨p, q⟩ := x
  have : (red a b).1 * q = p * (red a b).2 := by
    apply Int.eq_of_mul_eq_mul_left c0
    have e' : a * q = p * b := e
    have h1 : c * ((red a b).1 * q) = a * q := by rw [← Int.mul_assoc, ← ea]
    have h2 : c * (p * (red a b).2) = p * b := by rw [Int.mul_left_comm, ← eb]
    rw [h1, h2, e']
  exact frac_uniq (p := (red a b).1) (q := (red a b).2) hf h this
theorem Bt.red1 {k : Nat} {a b : Int} (hb : b ≠ 0) (h : Bt k a) : Bt k (red a b).1 := by
  obtain ⟨c, c0, ea, eb, hf⟩ := red_spec (a := a) hb
  unfold Bt at *
  have e1 : a.natAbs = c.natAbs * (red a b).1.natAbs := by rw [← Int.natAbs_mul, ← ea]
  have : (red a b).1.natAbs ≤ a.natAbs := by rw [e1]; exact Nat.le_mul_of_pos_left _ (by omega)
  omega
theorem Bt.red2 {k : Nat} {a b : Int} (hb : b ≠ 0) (h : Bt k b) : Bt k (red a b).2 := by
  obtain ⟨c, c0, ea, eb, hf⟩ := red_spec (a := a) hb
  unfold Bt at *
  have e1 : b.natAbs = c.natAbs * (red a b).2.natAbs := by rw [← Int.natAbs_mul, ← eb]
  have : (red a b).2.natAbs ≤ b.natAbs := by rw [e1]; exact Nat.le_mul_of_pos_left _ (by omega)
  omega
/-! what the calls tell -/
def addF (x y : Int × Int) : Int × Int := red (x.1 * y.2 + y.1 * x.2) (x.2 * y.2)
def subF (x y : Int × Int) : Int × Int := red (x.1 * y.2 - y.1 * x.2) (x.2 * y.2)
def mulF (x y : Int × Int) : Int × Int := red (x.1 * y.1) (x.2 * y.2)
def divF (x y : Int × Int) : Int × Int := red (x.1 * y.2) (x.2 * y.1)
def ltF (x y : Int × Int) : Bool := decide (x.1 * y.2 < y.1 * x.2)
theorem mul_ne {a b : Int} (ha : a ≠ 0) (hb : b ≠ 0) : a * b ≠ 0 := Int.mul_ne_zero ha hb
theorem Fr.ne {x : Int × Int} (h : Fr x) : x.2 ≠ 0 := by have := h.1; omega
theorem add_fr {x y : Int × Int} (h : Fr x) (g : Fr y) : Fr (addF x y) := red_fr (mul_ne h.ne g.ne)
theorem sub_fr {x y : Int × Int} (h : Fr x) (g : Fr y) : Fr (subF x y) := red_fr (mul_ne h.ne g.ne)
theorem mul_fr {x y : Int × Int} (h : Fr x) (g : Fr y) : Fr (mulF x y) := red_fr (mul_ne h.ne g.ne)
theorem div_fr {x y : Int × Int} (h : Fr x) (g : y.1 ≠ 0) : Fr (divF x y) := red_fr (mul_ne h.ne g)
theorem sub_add {x y : Int × Int} (h : Fr x) (g : Fr y) : subF (addF x y) y = x := by
  have hne := mul_ne h.ne g.ne
  obtain ⟨c, c0, ea, eb, hf⟩ := red_spec (a := x.1 * y.2 + y.1 * x.2) hne
  show red ((addF x y).1 * y.2 - y.1 * (addF x y).2) ((addF x y).2 * y.2) = x
  refine red_eq (mul_ne hf.ne g.ne) h ?_
  change x.1 * y.2 + y.1 * x.2 = c * (addF x y).1 at ea
  change x.2 * y.2 = c * (addF x y).2 at eb
  generalize (addF x y).1 = P at *
  generalize (addF x y).2 = Q at *
  apply Int.eq_of_mul_eq_mul_left c0
  grind
theorem add_sub {x y : Int × Int} (h : Fr x) (g : Fr y) : addF (subF x y) y = x := by
  have hne := mul_ne h.ne g.ne
  obtain ⟨c, c0, ea, eb, hf⟩ := red_spec (a := x.1 * y.2 - y.1 * x.2) hne
  show red ((subF x y).1 * y.2 + y.1 * (subF x y).2) ((subF x y).2 * y.2) = x
  refine red_eq (mul_ne hf.ne g.ne) h ?_
  change x.1 * y.2 - y.1 * x.2 = c * (subF x y).1 at ea
  change x.2 * y.2 = c * (subF x y).2 at eb
  generalize (subF x y).1 = P at *
  generalize (subF x y).2 = Q at *
  apply Int.eq_of_mul_eq_mul_left c0
  grind
theorem mul_div {x y : Int × Int} (h : Fr x) (g : Fr y) (g0 : y.1 ≠ 0) : mulF (divF x y) y = x := by
  have hne := mul_ne h.ne g0
  obtain ⟨c, c0, ea, eb, hf⟩ := red_spec (a := x.1 * y.2) hne
  show red ((divF x y).1 * y.1) ((divF x y).2 * y.2) = x
  refine red_eq (mul_ne hf.ne g.ne) h ?_
  change x.1 * y.2 = c * (divF x y).1 at ea
  change x.2 * y.1 = c * (divF x y).2 at eb
  generalize (divF x y).1 = P at *
  generalize (divF x y).2 = Q at *
  apply Int.eq_of_mul_eq_mul_left c0
  grind
theorem eq_lt {x y : Int × Int} (h : Fr x) (g : Fr y) : decide (x = y) = (decide (ltF x y = false) && decide (ltF y x = false)) := by
  by_cases e : x = y
  · subst e
    rw [decide_eq_true rfl]
    have : ltF x x = false := by unfold ltF; simp
    rw [this]
    rfl
  · rw [decide_eq_false e]
    by_cases a : x.1 * y.2 < y.1 * x.2
    · have : ltF x y = true := decide_eq_true a
      rw [this]
      rfl
    · by_cases b : y.1 * x.2 < x.1 * y.2
      · have : ltF y x = true := decide_eq_true b
        rw [this]
        simp
      · exact absurd (frac_uniq (p := x.1) (q := x.2) (p' := y.1) (q' := y.2) h g (by omega)) e
end Pd
/-! The defs of fractions. -/
namespace Pd
open PySem
theorem Wp.eq {o : Out D} {d : D} {S : Sto} (h : Wp o fun d' S' => d' = d ∧ S' = S) : o = .ok d S := by
  obtain ⟨_, _, e, rfl, rfl⟩ := h
  exact e
theorem keepP {n : Nat} {d : D} {S S' : Sto} (hp : pureD d = true) (hS : S'.take n = S) : Wp (keep true n d S') fun d' S'' => d' = d ∧ S'' = S := wp_keepP hp hS ⟨rfl, rfl⟩
def fr (x : Int × Int) : D := .tup [.int x.1, .int x.2]
theorem fr_pure (x : Int × Int) : pureD (fr x) = true := rfl
def fIsInt : Fn := ⟨1, 1, true, [.ret (.and [.isi (.slot 0) [.int], .not (.isi (.slot 0) [.bool])])]⟩
def fIsFr (ii : Nat) : Fn := ⟨1, 1, true, [.iff (.or [.not (.val (.isi (.slot 0) [.tuple])), .cmp .ne (.bi .len [.slot 0]) (.cst (.int 2)), .not (.val (.call ii [.idx (.slot 0) (.cst (.int 0))])), .not (.val (.call ii [.idx (.slot 0) (.cst (.int 1))]))]) [.ret (.cst (.bl false))] [], .ret (.and [.cmp .gt (.idx (.slot 0) (.cst (.int 1))) (.cst (.int 0)), .cmp .eq (.bi .gcd [.idx (.slot 0) (.cst (.int 0)), .idx (.slot 0) (.cst (.int 1))]) (.cst (.int 1))])]⟩
def fChk (ff : Nat) : Fn := ⟨1, 1, true, [.iff (.not (.val (.call ff [.slot 0]))) [.never] [], .ret (.slot 0)]⟩
def fRed : Fn := ⟨2, 3, true, [.set (.nm 2) (.bi .gcd [.slot 0, .slot 1]), .iff (.cmp .lt (.slot 1) (.cst (.int 0))) [.set (.nm 2) (.neg (.slot 2))] [], .ret (.tup [.bin .fdiv (.slot 0) (.slot 2), .bin .fdiv (.slot 1) (.slot 2)])]⟩
/-- x of a, and so on: the terms of two fractions' parts -/
abbrev t01 : IE := .bin .mul (.idx (.slot 0) (.cst (.int 0))) (.idx (.slot 1) (.cst (.int 1)))
abbrev t10 : IE := .bin .mul (.idx (.slot 1) (.cst (.int 0))) (.idx (.slot 0) (.cst (.int 1)))
abbrev t11 : IE := .bin .mul (.idx (.slot 0) (.cst (.int 1))) (.idx (.slot 1) (.cst (.int 1)))
abbrev t00 : IE := .bin .mul (.idx (.slot 0) (.cst (.int 0))) (.idx (.slot 1) (.cst (.int 0)))
abbrev t01' : IE := .bin .mul (.idx (.slot 0) (.cst (.int 1))) (.idx (.slot 1) (.cst (.int 0)))
def fAdd (r : Nat) : Fn := ⟨2, 2, true, [.ret (.call r [.bin .add t01 t10, t11])]⟩
def fSub (r : Nat) : Fn := ⟨2, 2, true, [.ret (.call r [.bin .sub t01 t10, t11])]⟩
def fMul (r : Nat) : Fn := ⟨2, 2, true, [.ret (.call r [t00, t11])]⟩
def fDiv (r : Nat) : Fn := ⟨2, 2, true, [.ret (.call r [t01, t01'])]⟩
def fLt : Fn := ⟨2, 2, true, [.ret (.cmp .lt t01 t10)]⟩
def fTwo (c : Nat) : Fn := ⟨2, 2, true, [.ex (.call c [.slot 0]), .ex (.call c [.slot 1])]⟩
def fNeed (c : Nat) : Fn := ⟨1, 1, true, [.ret (.call c [.slot 0])]⟩
def fMake (ii r : Nat) : Fn := ⟨2, 2, true, [.iff (.not (.val (.call ii [.slot 0]))) [.never] [], .iff (.or [.not (.val (.call ii [.slot 1])), .cmp .eq (.slot 1) (.cst (.int 0))]) [.never] [], .ret (.call r [.slot 0, .slot 1])]⟩
def fOp (t o : Nat) : Fn := ⟨2, 2, true, [.ex (.call t [.slot 0, .slot 1]), .ret (.call o [.slot 0, .slot 1])]⟩
section
variable {T : Tab} {n lo : Nat} {S : Sto}
theorem isInt_ok {f : Nat} (hf : T.fns[f]? = some fIsInt) {a : Int} : run T (n + 1) f lo [.int a] S = .ok (.bl true) S := by
  refine Wp.eq (wp_run hf rfl (wp_b ?_))
  simp only [q_slot, q_cst, q_glo, q_tup, q_lst, q_dic, q_bin, q_neg, q_not, q_cmp, q_ifx, q_isi, q_bi, q_call, q_callk, q_idx, q_slc, q_append, q_extend, q_and, q_or, q_nil, q_cons, q_none, q_some, q_and1, q_and2, q_andT, q_andF, q_andB, q_or1, q_or2, q_orB, q_tval, q_tnot, q_tand, q_tor, q_tcmp, q_tand1, q_tand2, q_tor1, q_tor2, q_cnil, q_ccons, q_set, q_par, q_setix, q_ex, q_ret, q_retN, q_iff, q_pass, q_brk, q_cont, q_bnil, q_nextN, q_nextR, q_nextK, q_nextC, q_bok, q_getS, q_getO, q_t0, q_t1, q_t2, q_t3, q_t4, q_l0, q_l1, q_l2, q_l3, q_l4, q_l5, q_l6, q_l8, q_negI, q_notS, q_okB, q_okI, q_nxO, q_nxS, q_mkNon, q_iteT, q_iteF, q_ofB, q_addI, q_subI, q_mulI, q_fdivI, q_modI, q_powI, q_addT, q_eqI, q_neI, q_ltI, q_leI, q_gtI, q_geI, q_eqB, q_neB, q_eqS, q_neS, q_isB, q_isnB, q_isN, q_isnN, q_truB, q_truI, q_isiI, q_isiB, q_isiS, q_isiT, q_isiN, q_lenT, q_gcd, q_abs, q_max, q_min, q_int, q_tupT, q_listT, q_ixT, q_ixL, q_at0, q_at1, q_at2, q_at3, q_at4, q_nm, q_tp, q_asn, q_asc, q_pn, q_pc, wp_bind, wp_ok, List.map_cons, List.map_nil, List.replicate, List.cons_append, List.nil_append, List.append_nil, List.getElem?_cons_zero, List.getElem?_cons_succ, List.set_cons_zero, List.set_cons_succ, List.length_cons, List.length_nil, if_true, if_false, Nat.reduceAdd, Nat.reduceSub, Nat.reduceLT, Nat.reduceLeDiff, Nat.zero_add, Nat.lt_add_one, Nat.zero_lt_succ, decide_true, decide_false, Bool.not_true, Bool.not_false, ne_eq, not_false_eq_true, not_true_eq_false, Int.reduceEq, Int.reduceNe, Int.reduceLT, Int.reduceLE, Int.reduceNeg, Int.reduceToNat, Nat.reducePow, Nat.reduceEqDiff, Bool.false_eq_true, List.any_cons, List.any_nil, Bool.or_false, Bool.or_true, Bool.false_or, Bool.true_or, Ty.sub, Int.cast_ofNat_Int, Int.natCast_zero, Int.natCast_one, eq_self, fIsInt]
  exact keepP rfl take_self
theorem isFr_ok {f ii : Nat} (hf : T.fns[f]? = some (fIsFr ii)) (hi : T.fns[ii]? = some fIsInt) {x : Int × Int} (h : Fr x) : run T (n + 2) f lo [fr x] S = .ok (.bl true) S := by
  refine Wp.eq (wp_run hf rfl (wp_b ?_))
  obtain ⟨h1, h2⟩ := h
  simp only [q_slot, q_cst, q_glo, q_tup, q_lst, q_dic, q_bin, q_neg, q_not, q_cmp, q_ifx, q_isi, q_bi, q_call, q_callk, q_idx, q_slc, q_append, q_extend, q_and, q_or, q_nil, q_cons, q_none, q_some, q_and1, q_and2, q_andT, q_andF, q_andB, q_or1, q_or2, q_orB, q_tval, q_tnot, q_tand, q_tor, q_tcmp, q_tand1, q_tand2, q_tor1, q_tor2, q_cnil, q_ccons, q_set, q_par, q_setix, q_ex, q_ret, q_retN, q_iff, q_pass, q_brk, q_cont, q_bnil, q_nextN, q_nextR, q_nextK, q_nextC, q_bok, q_getS, q_getO, q_t0, q_t1, q_t2, q_t3, q_t4, q_l0, q_l1, q_l2, q_l3, q_l4, q_l5, q_l6, q_l8, q_negI, q_notS, q_okB, q_okI, q_nxO, q_nxS, q_mkNon, q_iteT, q_iteF, q_ofB, q_addI, q_subI, q_mulI, q_fdivI, q_modI, q_powI, q_addT, q_eqI, q_neI, q_ltI, q_leI, q_gtI, q_geI, q_eqB, q_neB, q_eqS, q_neS, q_isB, q_isnB, q_isN, q_isnN, q_truB, q_truI, q_isiI, q_isiB, q_isiS, q_isiT, q_isiN, q_lenT, q_gcd, q_abs, q_max, q_min, q_int, q_tupT, q_listT, q_ixT, q_ixL, q_at0, q_at1, q_at2, q_at3, q_at4, q_nm, q_tp, q_asn, q_asc, q_pn, q_pc, wp_bind, wp_ok, List.map_cons, List.map_nil, List.replicate, List.cons_append, List.nil_append, List.append_nil, List.getElem?_cons_zero, List.getElem?_cons_succ, List.set_cons_zero, List.set_cons_succ, List.length_cons, List.length_nil, if_true, if_false, Nat.reduceAdd, Nat.reduceSub, Nat.reduceLT, Nat.reduceLeDiff, Nat.zero_add, Nat.lt_add_one, Nat.zero_lt_succ, decide_true, decide_false, Bool.not_true, Bool.not_false, ne_eq, not_false_eq_true, not_true_eq_false, Int.reduceEq, Int.reduceNe, Int.reduceLT, Int.reduceLE, Int.reduceNeg, Int.reduceToNat, Nat.reducePow, Nat.reduceEqDiff, Bool.false_eq_true, List.any_cons, List.any_nil, Bool.or_false, Bool.or_true, Bool.false_or, Bool.true_or, Ty.sub, Int.cast_ofNat_Int, Int.natCast_zero, Int.natCast_one, eq_self, fIsFr, fr, isInt_ok hi]
  refine wp_b ?_
  simp only [q_slot, q_cst, q_glo, q_tup, q_lst, q_dic, q_bin, q_neg, q_not, q_cmp, q_ifx, q_isi, q_bi, q_call, q_callk, q_idx, q_slc, q_append, q_extend, q_and, q_or, q_nil, q_cons, q_none, q_some, q_and1, q_and2, q_andT, q_andF, q_andB, q_or1, q_or2, q_orB, q_tval, q_tnot, q_tand, q_tor, q_tcmp, q_tand1, q_tand2, q_tor1, q_tor2, q_cnil, q_ccons, q_set, q_par, q_setix, q_ex, q_ret, q_retN, q_iff, q_pass, q_brk, q_cont, q_bnil, q_nextN, q_nextR, q_nextK, q_nextC, q_bok, q_getS, q_getO, q_t0, q_t1, q_t2, q_t3, q_t4, q_l0, q_l1, q_l2, q_l3, q_l4, q_l5, q_l6, q_l8, q_negI, q_notS, q_okB, q_okI, q_nxO, q_nxS, q_mkNon, q_iteT, q_iteF, q_ofB, q_addI, q_subI, q_mulI, q_fdivI, q_modI, q_powI, q_addT, q_eqI, q_neI, q_ltI, q_leI, q_gtI, q_geI, q_eqB, q_neB, q_eqS, q_neS, q_isB, q_isnB, q_isN, q_isnN, q_truB, q_truI, q_isiI, q_isiB, q_isiS, q_isiT, q_isiN, q_lenT, q_gcd, q_abs, q_max, q_min, q_int, q_tupT, q_listT, q_ixT, q_ixL, q_at0, q_at1, q_at2, q_at3, q_at4, q_nm, q_tp, q_asn, q_asc, q_pn, q_pc, wp_bind, wp_ok, List.map_cons, List.map_nil, List.replicate, List.cons_append, List.nil_append, List.append_nil, List.getElem?_cons_zero, List.getElem?_cons_succ, List.set_cons_zero, List.set_cons_succ, List.length_cons, List.length_nil, if_true, if_false, Nat.reduceAdd, Nat.reduceSub, Nat.reduceLT, Nat.reduceLeDiff, Nat.zero_add, Nat.lt_add_one, Nat.zero_lt_succ, decide_true, decide_false, Bool.not_true, Bool.not_false, ne_eq, not_false_eq_true, not_true_eq_false, Int.reduceEq, Int.reduceNe, Int.reduceLT, Int.reduceLE, Int.reduceNeg, Int.reduceToNat, Nat.reducePow, Nat.reduceEqDiff, Bool.false_eq_true, List.any_cons, List.any_nil, Bool.or_false, Bool.or_true, Bool.false_or, Bool.true_or, Ty.sub, Int.cast_ofNat_Int, Int.natCast_zero, Int.natCast_one, eq_self, h1, h2]
  exact keepP rfl take_self
theorem chk_ok {f ff ii : Nat} (hf : T.fns[f]? = some (fChk ff)) (hff : T.fns[ff]? = some (fIsFr ii)) (hi : T.fns[ii]? = some fIsInt) {x : Int × Int} (h : Fr x) : run T (n + 3) f lo [fr x] S = .ok (fr x) S := by
  refine Wp.eq (wp_run hf rfl (wp_b ?_))
  simp only [q_slot, q_cst, q_glo, q_tup, q_lst, q_dic, q_bin, q_neg, q_not, q_cmp, q_ifx, q_isi, q_bi, q_call, q_callk, q_idx, q_slc, q_append, q_extend, q_and, q_or, q_nil, q_cons, q_none, q_some, q_and1, q_and2, q_andT, q_andF, q_andB, q_or1, q_or2, q_orB, q_tval, q_tnot, q_tand, q_tor, q_tcmp, q_tand1, q_tand2, q_tor1, q_tor2, q_cnil, q_ccons, q_set, q_par, q_setix, q_ex, q_ret, q_retN, q_iff, q_pass, q_brk, q_cont, q_bnil, q_nextN, q_nextR, q_nextK, q_nextC, q_bok, q_getS, q_getO, q_t0, q_t1, q_t2, q_t3, q_t4, q_l0, q_l1, q_l2, q_l3, q_l4, q_l5, q_l6, q_l8, q_negI, q_notS, q_okB, q_okI, q_nxO, q_nxS, q_mkNon, q_iteT, q_iteF, q_ofB, q_addI, q_subI, q_mulI, q_fdivI, q_modI, q_powI, q_addT, q_eqI, q_neI, q_ltI, q_leI, q_gtI, q_geI, q_eqB, q_neB, q_eqS, q_neS, q_isB, q_isnB, q_isN, q_isnN, q_truB, q_truI, q_isiI, q_isiB, q_isiS, q_isiT, q_isiN, q_lenT, q_gcd, q_abs, q_max, q_min, q_int, q_tupT, q_listT, q_ixT, q_ixL, q_at0, q_at1, q_at2, q_at3, q_at4, q_nm, q_tp, q_asn, q_asc, q_pn, q_pc, wp_bind, wp_ok, List.map_cons, List.map_nil, List.replicate, List.cons_append, List.nil_append, List.append_nil, List.getElem?_cons_zero, List.getElem?_cons_succ, List.set_cons_zero, List.set_cons_succ, List.length_cons, List.length_nil, if_true, if_false, Nat.reduceAdd, Nat.reduceSub, Nat.reduceLT, Nat.reduceLeDiff, Nat.zero_add, Nat.lt_add_one, Nat.zero_lt_succ, decide_true, decide_false, Bool.not_true, Bool.not_false, ne_eq, not_false_eq_true, not_true_eq_false, Int.reduceEq, Int.reduceNe, Int.reduceLT, Int.reduceLE, Int.reduceNeg, Int.reduceToNat, Nat.reducePow, Nat.reduceEqDiff, Bool.false_eq_true, List.any_cons, List.any_nil, Bool.or_false, Bool.or_true, Bool.false_or, Bool.true_or, Ty.sub, Int.cast_ofNat_Int, Int.natCast_zero, Int.natCast_one, eq_self, fChk, isFr_ok hff hi h]
  refine wp_b ?_
  simp only [q_slot, q_cst, q_glo, q_tup, q_lst, q_dic, q_bin, q_neg, q_not, q_cmp, q_ifx, q_isi, q_bi, q_call, q_callk, q_idx, q_slc, q_append, q_extend, q_and, q_or, q_nil, q_cons, q_none, q_some, q_and1, q_and2, q_andT, q_andF, q_andB, q_or1, q_or2, q_orB, q_tval, q_tnot, q_tand, q_tor, q_tcmp, q_tand1, q_tand2, q_tor1, q_tor2, q_cnil, q_ccons, q_set, q_par, q_setix, q_ex, q_ret, q_retN, q_iff, q_pass, q_brk, q_cont, q_bnil, q_nextN, q_nextR, q_nextK, q_nextC, q_bok, q_getS, q_getO, q_t0, q_t1, q_t2, q_t3, q_t4, q_l0, q_l1, q_l2, q_l3, q_l4, q_l5, q_l6, q_l8, q_negI, q_notS, q_okB, q_okI, q_nxO, q_nxS, q_mkNon, q_iteT, q_iteF, q_ofB, q_addI, q_subI, q_mulI, q_fdivI, q_modI, q_powI, q_addT, q_eqI, q_neI, q_ltI, q_leI, q_gtI, q_geI, q_eqB, q_neB, q_eqS, q_neS, q_isB, q_isnB, q_isN, q_isnN, q_truB, q_truI, q_isiI, q_isiB, q_isiS, q_isiT, q_isiN, q_lenT, q_gcd, q_abs, q_max, q_min, q_int, q_tupT, q_listT, q_ixT, q_ixL, q_at0, q_at1, q_at2, q_at3, q_at4, q_nm, q_tp, q_asn, q_asc, q_pn, q_pc, wp_bind, wp_ok, List.map_cons, List.map_nil, List.replicate, List.cons_append, List.nil_append, List.append_nil, List.getElem?_cons_zero, List.getElem?_cons_succ, List.set_cons_zero, List.set_cons_succ, List.length_cons, List.length_nil, if_true, if_false, Nat.reduceAdd, Nat.reduceSub, Nat.reduceLT, Nat.reduceLeDiff, Nat.zero_add, Nat.lt_add_one, Nat.zero_lt_succ, decide_true, decide_false, Bool.not_true, Bool.not_false, ne_eq, not_false_eq_true, not_true_eq_false, Int.reduceEq, Int.reduceNe, Int.reduceLT, Int.reduceLE, Int.reduceNeg, Int.reduceToNat, Nat.reducePow, Nat.reduceEqDiff, Bool.false_eq_true, List.any_cons, List.any_nil, Bool.or_false, Bool.or_true, Bool.false_or, Bool.true_or, Ty.sub, Int.cast_ofNat_Int, Int.natCast_zero, Int.natCast_one, eq_self]
  exact keepP rfl take_self
theorem red_ok {f : Nat} (hf : T.fns[f]? = some fRed) {a b : Int} (hb : b ≠ 0) (ba : Bt 8000 a) (bb : Bt 8000 b) : run T (n + 1) f lo [.int a, .int b] S = .ok (fr (red a b)) S := by
  refine Wp.eq (wp_run hf rfl (wp_b ?_))
  simp only [q_slot, q_cst, q_glo, q_tup, q_lst, q_dic, q_bin, q_neg, q_not, q_cmp, q_ifx, q_isi, q_bi, q_call, q_callk, q_idx, q_slc, q_append, q_extend, q_and, q_or, q_nil, q_cons, q_none, q_some, q_and1, q_and2, q_andT, q_andF, q_andB, q_or1, q_or2, q_orB, q_tval, q_tnot, q_tand, q_tor, q_tcmp, q_tand1, q_tand2, q_tor1, q_tor2, q_cnil, q_ccons, q_set, q_par, q_setix, q_ex, q_ret, q_retN, q_iff, q_pass, q_brk, q_cont, q_bnil, q_nextN, q_nextR, q_nextK, q_nextC, q_bok, q_getS, q_getO, q_t0, q_t1, q_t2, q_t3, q_t4, q_l0, q_l1, q_l2, q_l3, q_l4, q_l5, q_l6, q_l8, q_negI, q_notS, q_okB, q_okI, q_nxO, q_nxS, q_mkNon, q_iteT, q_iteF, q_ofB, q_addI, q_subI, q_mulI, q_fdivI, q_modI, q_powI, q_addT, q_eqI, q_neI, q_ltI, q_leI, q_gtI, q_geI, q_eqB, q_neB, q_eqS, q_neS, q_isB, q_isnB, q_isN, q_isnN, q_truB, q_truI, q_isiI, q_isiB, q_isiS, q_isiT, q_isiN, q_lenT, q_gcd, q_abs, q_max, q_min, q_int, q_tupT, q_listT, q_ixT, q_ixL, q_at0, q_at1, q_at2, q_at3, q_at4, q_nm, q_tp, q_asn, q_asc, q_pn, q_pc, wp_bind, wp_ok, List.map_cons, List.map_nil, List.replicate, List.cons_append, List.nil_append, List.append_nil, List.getElem?_cons_zero, List.getElem?_cons_succ, List.set_cons_zero, List.set_cons_succ, List.length_cons, List.length_nil, if_true, if_false, Nat.reduceAdd, Nat.reduceSub, Nat.reduceLT, Nat.reduceLeDiff, Nat.zero_add, Nat.lt_add_one, Nat.zero_lt_succ, decide_true, decide_false, Bool.not_true, Bool.not_false, ne_eq, not_false_eq_true, not_true_eq_false, Int.reduceEq, Int.reduceNe, Int.reduceLT, Int.reduceLE, Int.reduceNeg, Int.reduceToNat, Nat.reducePow, Nat.reduceEqDiff, Bool.false_eq_true, List.any_cons, List.any_nil, Bool.or_false, Bool.or_true, Bool.false_or, Bool.true_or, Ty.sub, Int.cast_ofNat_Int, Int.natCast_zero, Int.natCast_one, eq_self, fRed]
  refine wp_b ?_
  have hg := gcd_pos (a := a) hb
  have hgb : Bt 8000 (gcdI a b) := by
    have : gcdI a b ∣ b := gcd_dr
    have h2 : (gcdI a b).natAbs ≤ b.natAbs := Nat.le_of_dvd (by omega) (Int.natAbs_dvd_natAbs.mpr this)
    unfold Bt at *
    omega
  have g1 : gcdI a b ≠ 0 := by omega
  have g2 := (divOk g1 hgb (by decide)).2
  have g3 : -gcdI a b ≠ 0 := by omega
  have g4 : (-gcdI a b).natAbs.log2 < 9000 := by rw [Int.natAbs_neg]; exact g2
  by_cases h : b < 0
  · simp only [q_slot, q_cst, q_glo, q_tup, q_lst, q_dic, q_bin, q_neg, q_not, q_cmp, q_ifx, q_isi, q_bi, q_call, q_callk, q_idx, q_slc, q_append, q_extend, q_and, q_or, q_nil, q_cons, q_none, q_some, q_and1, q_and2, q_andT, q_andF, q_andB, q_or1, q_or2, q_orB, q_tval, q_tnot, q_tand, q_tor, q_tcmp, q_tand1, q_tand2, q_tor1, q_tor2, q_cnil, q_ccons, q_set, q_par, q_setix, q_ex, q_ret, q_retN, q_iff, q_pass, q_brk, q_cont, q_bnil, q_nextN, q_nextR, q_nextK, q_nextC, q_bok, q_getS, q_getO, q_t0, q_t1, q_t2, q_t3, q_t4, q_l0, q_l1, q_l2, q_l3, q_l4, q_l5, q_l6, q_l8, q_negI, q_notS, q_okB, q_okI, q_nxO, q_nxS, q_mkNon, q_iteT, q_iteF, q_ofB, q_addI, q_subI, q_mulI, q_fdivI, q_modI, q_powI, q_addT, q_eqI, q_neI, q_ltI, q_leI, q_gtI, q_geI, q_eqB, q_neB, q_eqS, q_neS, q_isB, q_isnB, q_isN, q_isnN, q_truB, q_truI, q_isiI, q_isiB, q_isiS, q_isiT, q_isiN, q_lenT, q_gcd, q_abs, q_max, q_min, q_int, q_tupT, q_listT, q_ixT, q_ixL, q_at0, q_at1, q_at2, q_at3, q_at4, q_nm, q_tp, q_asn, q_asc, q_pn, q_pc, wp_bind, wp_ok, List.map_cons, List.map_nil, List.replicate, List.cons_append, List.nil_append, List.append_nil, List.getElem?_cons_zero, List.getElem?_cons_succ, List.set_cons_zero, List.set_cons_succ, List.length_cons, List.length_nil, if_true, if_false, Nat.reduceAdd, Nat.reduceSub, Nat.reduceLT, Nat.reduceLeDiff, Nat.zero_add, Nat.lt_add_one, Nat.zero_lt_succ, decide_true, decide_false, Bool.not_true, Bool.not_false, ne_eq, not_false_eq_true, not_true_eq_false, Int.reduceEq, Int.reduceNe, Int.reduceLT, Int.reduceLE, Int.reduceNeg, Int.reduceToNat, Nat.reducePow, Nat.reduceEqDiff, Bool.false_eq_true, List.any_cons, List.any_nil, Bool.or_false, Bool.or_true, Bool.false_or, Bool.true_or, Ty.sub, Int.cast_ofNat_Int, Int.natCast_zero, Int.natCast_one, eq_self, h]
    refine wp_b ?_
    simp only [q_slot, q_cst, q_glo, q_tup, q_lst, q_dic, q_bin, q_neg, q_not, q_cmp, q_ifx, q_isi, q_bi, q_call, q_callk, q_idx, q_slc, q_append, q_extend, q_and, q_or, q_nil, q_cons, q_none, q_some, q_and1, q_and2, q_andT, q_andF, q_andB, q_or1, q_or2, q_orB, q_tval, q_tnot, q_tand, q_tor, q_tcmp, q_tand1, q_tand2, q_tor1, q_tor2, q_cnil, q_ccons, q_set, q_par, q_setix, q_ex, q_ret, q_retN, q_iff, q_pass, q_brk, q_cont, q_bnil, q_nextN, q_nextR, q_nextK, q_nextC, q_bok, q_getS, q_getO, q_t0, q_t1, q_t2, q_t3, q_t4, q_l0, q_l1, q_l2, q_l3, q_l4, q_l5, q_l6, q_l8, q_negI, q_notS, q_okB, q_okI, q_nxO, q_nxS, q_mkNon, q_iteT, q_iteF, q_ofB, q_addI, q_subI, q_mulI, q_fdivI, q_modI, q_powI, q_addT, q_eqI, q_neI, q_ltI, q_leI, q_gtI, q_geI, q_eqB, q_neB, q_eqS, q_neS, q_isB, q_isnB, q_isN, q_isnN, q_truB, q_truI, q_isiI, q_isiB, q_isiS, q_isiT, q_isiN, q_lenT, q_gcd, q_abs, q_max, q_min, q_int, q_tupT, q_listT, q_ixT, q_ixL, q_at0, q_at1, q_at2, q_at3, q_at4, q_nm, q_tp, q_asn, q_asc, q_pn, q_pc, wp_bind, wp_ok, List.map_cons, List.map_nil, List.replicate, List.cons_append, List.nil_append, List.append_nil, List.getElem?_cons_zero, List.getElem?_cons_succ, List.set_cons_zero, List.set_cons_succ, List.length_cons, List.length_nil, if_true, if_false, Nat.reduceAdd, Nat.reduceSub, Nat.reduceLT, Nat.reduceLeDiff, Nat.zero_add, Nat.lt_add_one, Nat.zero_lt_succ, decide_true, decide_false, Bool.not_true, Bool.not_false, ne_eq, not_false_eq_true, not_true_eq_false, Int.reduceEq, Int.reduceNe, Int.reduceLT, Int.reduceLE, Int.reduceNeg, Int.reduceToNat, Nat.reducePow, Nat.reduceEqDiff, Bool.false_eq_true, List.any_cons, List.any_nil, Bool.or_false, Bool.or_true, Bool.false_or, Bool.true_or, Ty.sub, Int.cast_ofNat_Int, Int.natCast_zero, Int.natCast_one, eq_self]
    refine wp_b ?_
    simp only [q_slot, q_cst, q_glo, q_tup, q_lst, q_dic, q_bin, q_neg, q_not, q_cmp, q_ifx, q_isi, q_bi, q_call, q_callk, q_idx, q_slc, q_append, q_extend, q_and, q_or, q_nil, q_cons, q_none, q_some, q_and1, q_and2, q_andT, q_andF, q_andB, q_or1, q_or2, q_orB, q_tval, q_tnot, q_tand, q_tor, q_tcmp, q_tand1, q_tand2, q_tor1, q_tor2, q_cnil, q_ccons, q_set, q_par, q_setix, q_ex, q_ret, q_retN, q_iff, q_pass, q_brk, q_cont, q_bnil, q_nextN, q_nextR, q_nextK, q_nextC, q_bok, q_getS, q_getO, q_t0, q_t1, q_t2, q_t3, q_t4, q_l0, q_l1, q_l2, q_l3, q_l4, q_l5, q_l6, q_l8, q_negI, q_notS, q_okB, q_okI, q_nxO, q_nxS, q_mkNon, q_iteT, q_iteF, q_ofB, q_addI, q_subI, q_mulI, q_fdivI, q_modI, q_powI, q_addT, q_eqI, q_neI, q_ltI, q_leI, q_gtI, q_geI, q_eqB, q_neB, q_eqS, q_neS, q_isB, q_isnB, q_isN, q_isnN, q_truB, q_truI, q_isiI, q_isiB, q_isiS, q_isiT, q_isiN, q_lenT, q_gcd, q_abs, q_max, q_min, q_int, q_tupT, q_listT, q_ixT, q_ixL, q_at0, q_at1, q_at2, q_at3, q_at4, q_nm, q_tp, q_asn, q_asc, q_pn, q_pc, wp_bind, wp_ok, List.map_cons, List.map_nil, List.replicate, List.cons_append, List.nil_append, List.append_nil, List.getElem?_cons_zero, List.getElem?_cons_succ, List.set_cons_zero, List.set_cons_succ, List.length_cons, List.length_nil, if_true, if_false, Nat.reduceAdd, Nat.reduceSub, Nat.reduceLT, Nat.reduceLeDiff, Nat.zero_add, Nat.lt_add_one, Nat.zero_lt_succ, decide_true, decide_false, Bool.not_true, Bool.not_false, ne_eq, not_false_eq_true, not_true_eq_false, Int.reduceEq, Int.reduceNe, Int.reduceLT, Int.reduceLE, Int.reduceNeg, Int.reduceToNat, Nat.reducePow, Nat.reduceEqDiff, Bool.false_eq_true, List.any_cons, List.any_nil, Bool.or_false, Bool.or_true, Bool.false_or, Bool.true_or, Ty.sub, Int.cast_ofNat_Int, Int.natCast_zero, Int.natCast_one, eq_self, g3, g4]
    have : fr (red a b) = .tup [.int (a.fdiv (-gcdI a b)), .int (b.fdiv (-gcdI a b))] := by unfold fr red; rw [if_pos h]
    rw [this]
    exact keepP rfl take_self
  · simp only [q_slot, q_cst, q_glo, q_tup, q_lst, q_dic, q_bin, q_neg, q_not, q_cmp, q_ifx, q_isi, q_bi, q_call, q_callk, q_idx, q_slc, q_append, q_extend, q_and, q_or, q_nil, q_cons, q_none, q_some, q_and1, q_and2, q_andT, q_andF, q_andB, q_or1, q_or2, q_orB, q_tval, q_tnot, q_tand, q_tor, q_tcmp, q_tand1, q_tand2, q_tor1, q_tor2, q_cnil, q_ccons, q_set, q_par, q_setix, q_ex, q_ret, q_retN, q_iff, q_pass, q_brk, q_cont, q_bnil, q_nextN, q_nextR, q_nextK, q_nextC, q_bok, q_getS, q_getO, q_t0, q_t1, q_t2, q_t3, q_t4, q_l0, q_l1, q_l2, q_l3, q_l4, q_l5, q_l6, q_l8, q_negI, q_notS, q_okB, q_okI, q_nxO, q_nxS, q_mkNon, q_iteT, q_iteF, q_ofB, q_addI, q_subI, q_mulI, q_fdivI, q_modI, q_powI, q_addT, q_eqI, q_neI, q_ltI, q_leI, q_gtI, q_geI, q_eqB, q_neB, q_eqS, q_neS, q_isB, q_isnB, q_isN, q_isnN, q_truB, q_truI, q_isiI, q_isiB, q_isiS, q_isiT, q_isiN, q_lenT, q_gcd, q_abs, q_max, q_min, q_int, q_tupT, q_listT, q_ixT, q_ixL, q_at0, q_at1, q_at2, q_at3, q_at4, q_nm, q_tp, q_asn, q_asc, q_pn, q_pc, wp_bind, wp_ok, List.map_cons, List.map_nil, List.replicate, List.cons_append, List.nil_append, List.append_nil, List.getElem?_cons_zero, List.getElem?_cons_succ, List.set_cons_zero, List.set_cons_succ, List.length_cons, List.length_nil, if_true, if_false, Nat.reduceAdd, Nat.reduceSub, Nat.reduceLT, Nat.reduceLeDiff, Nat.zero_add, Nat.lt_add_one, Nat.zero_lt_succ, decide_true, decide_false, Bool.not_true, Bool.not_false, ne_eq, not_false_eq_true, not_true_eq_false, Int.reduceEq, Int.reduceNe, Int.reduceLT, Int.reduceLE, Int.reduceNeg, Int.reduceToNat, Nat.reducePow, Nat.reduceEqDiff, Bool.false_eq_true, List.any_cons, List.any_nil, Bool.or_false, Bool.or_true, Bool.false_or, Bool.true_or, Ty.sub, Int.cast_ofNat_Int, Int.natCast_zero, Int.natCast_one, eq_self, h]
    refine wp_b ?_
    simp only [q_slot, q_cst, q_glo, q_tup, q_lst, q_dic, q_bin, q_neg, q_not, q_cmp, q_ifx, q_isi, q_bi, q_call, q_callk, q_idx, q_slc, q_append, q_extend, q_and, q_or, q_nil, q_cons, q_none, q_some, q_and1, q_and2, q_andT, q_andF, q_andB, q_or1, q_or2, q_orB, q_tval, q_tnot, q_tand, q_tor, q_tcmp, q_tand1, q_tand2, q_tor1, q_tor2, q_cnil, q_ccons, q_set, q_par, q_setix, q_ex, q_ret, q_retN, q_iff, q_pass, q_brk, q_cont, q_bnil, q_nextN, q_nextR, q_nextK, q_nextC, q_bok, q_getS, q_getO, q_t0, q_t1, q_t2, q_t3, q_t4, q_l0, q_l1, q_l2, q_l3, q_l4, q_l5, q_l6, q_l8, q_negI, q_notS, q_okB, q_okI, q_nxO, q_nxS, q_mkNon, q_iteT, q_iteF, q_ofB, q_addI, q_subI, q_mulI, q_fdivI, q_modI, q_powI, q_addT, q_eqI, q_neI, q_ltI, q_leI, q_gtI, q_geI, q_eqB, q_neB, q_eqS, q_neS, q_isB, q_isnB, q_isN, q_isnN, q_truB, q_truI, q_isiI, q_isiB, q_isiS, q_isiT, q_isiN, q_lenT, q_gcd, q_abs, q_max, q_min, q_int, q_tupT, q_listT, q_ixT, q_ixL, q_at0, q_at1, q_at2, q_at3, q_at4, q_nm, q_tp, q_asn, q_asc, q_pn, q_pc, wp_bind, wp_ok, List.map_cons, List.map_nil, List.replicate, List.cons_append, List.nil_append, List.append_nil, List.getElem?_cons_zero, List.getElem?_cons_succ, List.set_cons_zero, List.set_cons_succ, List.length_cons, List.length_nil, if_true, if_false, Nat.reduceAdd, Nat.reduceSub, Nat.reduceLT, Nat.reduceLeDiff, Nat.zero_add, Nat.lt_add_one, Nat.zero_lt_succ, decide_true, decide_false, Bool.not_true, Bool.not_false, ne_eq, not_false_eq_true, not_true_eq_false, Int.reduceEq, Int.reduceNe, Int.reduceLT, Int.reduceLE, Int.reduceNeg, Int.reduceToNat, Nat.reducePow, Nat.reduceEqDiff, Bool.false_eq_true, List.any_cons, List.any_nil, Bool.or_false, Bool.or_true, Bool.false_or, Bool.true_or, Ty.sub, Int.cast_ofNat_Int, Int.natCast_zero, Int.natCast_one, eq_self, g1, g2]
    have : fr (red a b) = .tup [.int (a.fdiv (gcdI a b)), .int (b.fdiv (gcdI a b))] := by unfold fr red; rw [if_neg h]
    rw [this]
    exact keepP rfl take_self
/-- what makes a fraction of two parts, m calls deep -/
def RedF (T : Tab) (r m : Nat) : Prop := ∀ (n lo : Nat) (S : Sto) (a b : Int), b ≠ 0 → Bt 8000 a → Bt 8000 b → run T (n + m) r lo [.int a, .int b] S = .ok (fr (red a b)) S
/-- parts of at most k places -/
def Bf (k : Nat) (x : Int × Int) : Prop := Bt k x.1 ∧ Bt k x.2
theorem redF_ok {r : Nat} (h : T.fns[r]? = some fRed) : RedF T r 1 := fun _ _ _ _ _ h1 h2 h3 => red_ok h h1 h2 h3
theorem add_ok {f r m : Nat} (hf : T.fns[f]? = some (fAdd r)) (hr : RedF T r m) {x y : Int × Int} (hx : x.2 ≠ 0) (hy : y.2 ≠ 0) (bx : Bf 3000 x) (by' : Bf 3000 y) : run T (n + m + 1) f lo [fr x, fr y] S = .ok (fr (addF x y)) S := by
  refine Wp.eq (wp_run hf rfl (wp_b ?_))
  have m1 := mulOk bx.1 by'.2 (by decide)
  have m2 := mulOk by'.1 bx.2 (by decide)
  have m3 := mulOk bx.2 by'.2 (by decide)
  have e := fun lo => hr n lo S _ _ (mul_ne hx hy) (((bx.1.mul by'.2).add (by'.1.mul bx.2)).mono (by decide)) ((bx.2.mul by'.2).mono (by decide))
  simp only [q_slot, q_cst, q_glo, q_tup, q_lst, q_dic, q_bin, q_neg, q_not, q_cmp, q_ifx, q_isi, q_bi, q_call, q_callk, q_idx, q_slc, q_append, q_extend, q_and, q_or, q_nil, q_cons, q_none, q_some, q_and1, q_and2, q_andT, q_andF, q_andB, q_or1, q_or2, q_orB, q_tval, q_tnot, q_tand, q_tor, q_tcmp, q_tand1, q_tand2, q_tor1, q_tor2, q_cnil, q_ccons, q_set, q_par, q_setix, q_ex, q_ret, q_retN, q_iff, q_pass, q_brk, q_cont, q_bnil, q_nextN, q_nextR, q_nextK, q_nextC, q_bok, q_getS, q_getO, q_t0, q_t1, q_t2, q_t3, q_t4, q_l0, q_l1, q_l2, q_l3, q_l4, q_l5, q_l6, q_l8, q_negI, q_notS, q_okB, q_okI, q_nxO, q_nxS, q_mkNon, q_iteT, q_iteF, q_ofB, q_addI, q_subI, q_mulI, q_fdivI, q_modI, q_powI, q_addT, q_eqI, q_neI, q_ltI, q_leI, q_gtI, q_geI, q_eqB, q_neB, q_eqS, q_neS, q_isB, q_isnB, q_isN, q_isnN, q_truB, q_truI, q_isiI, q_isiB, q_isiS, q_isiT, q_isiN, q_lenT, q_gcd, q_abs, q_max, q_min, q_int, q_tupT, q_listT, q_ixT, q_ixL, q_at0, q_at1, q_at2, q_at3, q_at4, q_nm, q_tp, q_asn, q_asc, q_pn, q_pc, wp_bind, wp_ok, List.map_cons, List.map_nil, List.replicate, List.cons_append, List.nil_append, List.append_nil, List.getElem?_cons_zero, List.getElem?_cons_succ, List.set_cons_zero, List.set_cons_succ, List.length_cons, List.length_nil, if_true, if_false, Nat.reduceAdd, Nat.reduceSub, Nat.reduceLT, Nat.reduceLeDiff, Nat.zero_add, Nat.lt_add_one, Nat.zero_lt_succ, decide_true, decide_false, Bool.not_true, Bool.not_false, ne_eq, not_false_eq_true, not_true_eq_false, Int.reduceEq, Int.reduceNe, Int.reduceLT, Int.reduceLE, Int.reduceNeg, Int.reduceToNat, Nat.reducePow, Nat.reduceEqDiff, Bool.false_eq_true, List.any_cons, List.any_nil, Bool.or_false, Bool.or_true, Bool.false_or, Bool.true_or, Ty.sub, Int.cast_ofNat_Int, Int.natCast_zero, Int.natCast_one, eq_self, fAdd, fr, m1, m2, m3]
  unfold fr at e
  simp only [q_slot, q_cst, q_glo, q_tup, q_lst, q_dic, q_bin, q_neg, q_not, q_cmp, q_ifx, q_isi, q_bi, q_call, q_callk, q_idx, q_slc, q_append, q_extend, q_and, q_or, q_nil, q_cons, q_none, q_some, q_and1, q_and2, q_andT, q_andF, q_andB, q_or1, q_or2, q_orB, q_tval, q_tnot, q_tand, q_tor, q_tcmp, q_tand1, q_tand2, q_tor1, q_tor2, q_cnil, q_ccons, q_set, q_par, q_setix, q_ex, q_ret, q_retN, q_iff, q_pass, q_brk, q_cont, q_bnil, q_nextN, q_nextR, q_nextK, q_nextC, q_bok, q_getS, q_getO, q_t0, q_t1, q_t2, q_t3, q_t4, q_l0, q_l1, q_l2, q_l3, q_l4, q_l5, q_l6, q_l8, q_negI, q_notS, q_okB, q_okI, q_nxO, q_nxS, q_mkNon, q_iteT, q_iteF, q_ofB, q_addI, q_subI, q_mulI, q_fdivI, q_modI, q_powI, q_addT, q_eqI, q_neI, q_ltI, q_leI, q_gtI, q_geI, q_eqB, q_neB, q_eqS, q_neS, q_isB, q_isnB, q_isN, q_isnN, q_truB, q_truI, q_isiI, q_isiB, q_isiS, q_isiT, q_isiN, q_lenT, q_gcd, q_abs, q_max, q_min, q_int, q_tupT, q_listT, q_ixT, q_ixL, q_at0, q_at1, q_at2, q_at3, q_at4, q_nm, q_tp, q_asn, q_asc, q_pn, q_pc, wp_bind, wp_ok, List.map_cons, List.map_nil, List.replicate, List.cons_append, List.nil_append, List.append_nil, List.getElem?_cons_zero, List.getElem?_cons_succ, List.set_cons_zero, List.set_cons_succ, List.length_cons, List.length_nil, if_true, if_false, Nat.reduceAdd, Nat.reduceSub, Nat.reduceLT, Nat.reduceLeDiff, Nat.zero_add, Nat.lt_add_one, Nat.zero_lt_succ, decide_true, decide_false, Bool.not_true, Bool.not_false, ne_eq, not_false_eq_true, not_true_eq_false, Int.reduceEq, Int.reduceNe, Int.reduceLT, Int.reduceLE, Int.reduceNeg, Int.reduceToNat, Nat.reducePow, Nat.reduceEqDiff, Bool.false_eq_true, List.any_cons, List.any_nil, Bool.or_false, Bool.or_true, Bool.false_or, Bool.true_or, Ty.sub, Int.cast_ofNat_Int, Int.natCast_zero, Int.natCast_one, eq_self, e]
  exact keepP rfl take_self
theorem sub_ok {f r m : Nat} (hf : T.fns[f]? = some (fSub r)) (hr : RedF T r m) {x y : Int × Int} (hx : x.2 ≠ 0) (hy : y.2 ≠ 0) (bx : Bf 3000 x) (by' : Bf 3000 y) : run T (n + m + 1) f lo [fr x, fr y] S = .ok (fr (subF x y)) S := by
  refine Wp.eq (wp_run hf rfl (wp_b ?_))
  have m1 := mulOk bx.1 by'.2 (by decide)
  have m2 := mulOk by'.1 bx.2 (by decide)
  have m3 := mulOk bx.2 by'.2 (by decide)
  have e := fun lo => hr n lo S _ _ (mul_ne hx hy) (((bx.1.mul by'.2).sub (by'.1.mul bx.2)).mono (by decide)) ((bx.2.mul by'.2).mono (by decide))
  simp only [q_slot, q_cst, q_glo, q_tup, q_lst, q_dic, q_bin, q_neg, q_not, q_cmp, q_ifx, q_isi, q_bi, q_call, q_callk, q_idx, q_slc, q_append, q_extend, q_and, q_or, q_nil, q_cons, q_none, q_some, q_and1, q_and2, q_andT, q_andF, q_andB, q_or1, q_or2, q_orB, q_tval, q_tnot, q_tand, q_tor, q_tcmp, q_tand1, q_tand2, q_tor1, q_tor2, q_cnil, q_ccons, q_set, q_par, q_setix, q_ex, q_ret, q_retN, q_iff, q_pass, q_brk, q_cont, q_bnil, q_nextN, q_nextR, q_nextK, q_nextC, q_bok, q_getS, q_getO, q_t0, q_t1, q_t2, q_t3, q_t4, q_l0, q_l1, q_l2, q_l3, q_l4, q_l5, q_l6, q_l8, q_negI, q_notS, q_okB, q_okI, q_nxO, q_nxS, q_mkNon, q_iteT, q_iteF, q_ofB, q_addI, q_subI, q_mulI, q_fdivI, q_modI, q_powI, q_addT, q_eqI, q_neI, q_ltI, q_leI, q_gtI, q_geI, q_eqB, q_neB, q_eqS, q_neS, q_isB, q_isnB, q_isN, q_isnN, q_truB, q_truI, q_isiI, q_isiB, q_isiS, q_isiT, q_isiN, q_lenT, q_gcd, q_abs, q_max, q_min, q_int, q_tupT, q_listT, q_ixT, q_ixL, q_at0, q_at1, q_at2, q_at3, q_at4, q_nm, q_tp, q_asn, q_asc, q_pn, q_pc, wp_bind, wp_ok, List.map_cons, List.map_nil, List.replicate, List.cons_append, List.nil_append, List.append_nil, List.getElem?_cons_zero, List.getElem?_cons_succ, List.set_cons_zero, List.set_cons_succ, List.length_cons, List.length_nil, if_true, if_false, Nat.reduceAdd, Nat.reduceSub, Nat.reduceLT, Nat.reduceLeDiff, Nat.zero_add, Nat.lt_add_one, Nat.zero_lt_succ, decide_true, decide_false, Bool.not_true, Bool.not_false, ne_eq, not_false_eq_true, not_true_eq_false, Int.reduceEq, Int.reduceNe, Int.reduceLT, Int.reduceLE, Int.reduceNeg, Int.reduceToNat, Nat.reducePow, Nat.reduceEqDiff, Bool.false_eq_true, List.any_cons, List.any_nil, Bool.or_false, Bool.or_true, Bool.false_or, Bool.true_or, Ty.sub, Int.cast_ofNat_Int, Int.natCast_zero, Int.natCast_one, eq_self, fSub, fr, m1, m2, m3]
  unfold fr at e
  simp only [q_slot, q_cst, q_glo, q_tup, q_lst, q_dic, q_bin, q_neg, q_not, q_cmp, q_ifx, q_isi, q_bi, q_call, q_callk, q_idx, q_slc, q_append, q_extend, q_and, q_or, q_nil, q_cons, q_none, q_some, q_and1, q_and2, q_andT, q_andF, q_andB, q_or1, q_or2, q_orB, q_tval, q_tnot, q_tand, q_tor, q_tcmp, q_tand1, q_tand2, q_tor1, q_tor2, q_cnil, q_ccons, q_set, q_par, q_setix, q_ex, q_ret, q_retN, q_iff, q_pass, q_brk, q_cont, q_bnil, q_nextN, q_nextR, q_nextK, q_nextC, q_bok, q_getS, q_getO, q_t0, q_t1, q_t2, q_t3, q_t4, q_l0, q_l1, q_l2, q_l3, q_l4, q_l5, q_l6, q_l8, q_negI, q_notS, q_okB, q_okI, q_nxO, q_nxS, q_mkNon, q_iteT, q_iteF, q_ofB, q_addI, q_subI, q_mulI, q_fdivI, q_modI, q_powI, q_addT, q_eqI, q_neI, q_ltI, q_leI, q_gtI, q_geI, q_eqB, q_neB, q_eqS, q_neS, q_isB, q_isnB, q_isN, q_isnN, q_truB, q_truI, q_isiI, q_isiB, q_isiS, q_isiT, q_isiN, q_lenT, q_gcd, q_abs, q_max, q_min, q_int, q_tupT, q_listT, q_ixT, q_ixL, q_at0, q_at1, q_at2, q_at3, q_at4, q_nm, q_tp, q_asn, q_asc, q_pn, q_pc, wp_bind, wp_ok, List.map_cons, List.map_nil, List.replicate, List.cons_append, List.nil_append, List.append_nil, List.getElem?_cons_zero, List.getElem?_cons_succ, List.set_cons_zero, List.set_cons_succ, List.length_cons, List.length_nil, if_true, if_false, Nat.reduceAdd, Nat.reduceSub, Nat.reduceLT, Nat.reduceLeDiff, Nat.zero_add, Nat.lt_add_one, Nat.zero_lt_succ, decide_true, decide_false, Bool.not_true, Bool.not_false, ne_eq, not_false_eq_true, not_true_eq_false, Int.reduceEq, Int.reduceNe, Int.reduceLT, Int.reduceLE, Int.reduceNeg, Int.reduceToNat, Nat.reducePow, Nat.reduceEqDiff, Bool.false_eq_true, List.any_cons, List.any_nil, Bool.or_false, Bool.or_true, Bool.false_or, Bool.true_or, Ty.sub, Int.cast_ofNat_Int, Int.natCast_zero, Int.natCast_one, eq_self, e]
  exact keepP rfl take_self
theorem mul_ok {f r m : Nat} (hf : T.fns[f]? = some (fMul r)) (hr : RedF T r m) {x y : Int × Int} (hx : x.2 ≠ 0) (hy : y.2 ≠ 0) (bx : Bf 3000 x) (by' : Bf 3000 y) : run T (n + m + 1) f lo [fr x, fr y] S = .ok (fr (mulF x y)) S := by
  refine Wp.eq (wp_run hf rfl (wp_b ?_))
  have m1 := mulOk bx.1 by'.1 (by decide)
  have m3 := mulOk bx.2 by'.2 (by decide)
  have e := fun lo => hr n lo S _ _ (mul_ne hx hy) ((bx.1.mul by'.1).mono (by decide)) ((bx.2.mul by'.2).mono (by decide))
  simp only [q_slot, q_cst, q_glo, q_tup, q_lst, q_dic, q_bin, q_neg, q_not, q_cmp, q_ifx, q_isi, q_bi, q_call, q_callk, q_idx, q_slc, q_append, q_extend, q_and, q_or, q_nil, q_cons, q_none, q_some, q_and1, q_and2, q_andT, q_andF, q_andB, q_or1, q_or2, q_orB, q_tval, q_tnot, q_tand, q_tor, q_tcmp, q_tand1, q_tand2, q_tor1, q_tor2, q_cnil, q_ccons, q_set, q_par, q_setix, q_ex, q_ret, q_retN, q_iff, q_pass, q_brk, q_cont, q_bnil, q_nextN, q_nextR, q_nextK, q_nextC, q_bok, q_getS, q_getO, q_t0, q_t1, q_t2, q_t3, q_t4, q_l0, q_l1, q_l2, q_l3, q_l4, q_l5, q_l6, q_l8, q_negI, q_notS, q_okB, q_okI, q_nxO, q_nxS, q_mkNon, q_iteT, q_iteF, q_ofB, q_addI, q_subI, q_mulI, q_fdivI, q_modI, q_powI, q_addT, q_eqI, q_neI, q_ltI, q_leI, q_gtI, q_geI, q_eqB, q_neB, q_eqS, q_neS, q_isB, q_isnB, q_isN, q_isnN, q_truB, q_truI, q_isiI, q_isiB, q_isiS, q_isiT, q_isiN, q_lenT, q_gcd, q_abs, q_max, q_min, q_int, q_tupT, q_listT, q_ixT, q_ixL, q_at0, q_at1, q_at2, q_at3, q_at4, q_nm, q_tp, q_asn, q_asc, q_pn, q_pc, wp_bind, wp_ok, List.map_cons, List.map_nil, List.replicate, List.cons_append, List.nil_append, List.append_nil, List.getElem?_cons_zero, List.getElem?_cons_succ, List.set_cons_zero, List.set_cons_succ, List.length_cons, List.length_nil, if_true, if_false, Nat.reduceAdd, Nat.reduceSub, Nat.reduceLT, Nat.reduceLeDiff, Nat.zero_add, Nat.lt_add_one, Nat.zero_lt_succ, decide_true, decide_false, Bool.not_true, Bool.not_false, ne_eq, not_false_eq_true, not_true_eq_false, Int.reduceEq, Int.reduceNe, Int.reduceLT, Int.reduceLE, Int.reduceNeg, Int.reduceToNat, Nat.reducePow, Nat.reduceEqDiff, Bool.false_eq_true, List.any_cons, List.any_nil, Bool.or_false, Bool.or_true, Bool.false_or, Bool.true_or, Ty.sub, Int.cast_ofNat_Int, Int.natCast_zero, Int.natCast_one, eq_self, fMul, fr, m1, m3]
  unfold fr at e
  simp only [q_slot, q_cst, q_glo, q_tup, q_lst, q_dic, q_bin, q_neg, q_not, q_cmp, q_ifx, q_isi, q_bi, q_call, q_callk, q_idx, q_slc, q_append, q_extend, q_and, q_or, q_nil, q_cons, q_none, q_some, q_and1, q_and2, q_andT, q_andF, q_andB, q_or1, q_or2, q_orB, q_tval, q_tnot, q_tand, q_tor, q_tcmp, q_tand1, q_tand2, q_tor1, q_tor2, q_cnil, q_ccons, q_set, q_par, q_setix, q_ex, q_ret, q_retN, q_iff, q_pass, q_brk, q_cont, q_bnil, q_nextN, q_nextR, q_nextK, q_nextC, q_bok, q_getS, q_getO, q_t0, q_t1, q_t2, q_t3, q_t4, q_l0, q_l1, q_l2, q_l3, q_l4, q_l5, q_l6, q_l8, q_negI, q_notS, q_okB, q_okI, q_nxO, q_nxS, q_mkNon, q_iteT, q_iteF, q_ofB, q_addI, q_subI, q_mulI, q_fdivI, q_modI, q_powI, q_addT, q_eqI, q_neI, q_ltI, q_leI, q_gtI, q_geI, q_eqB, q_neB, q_eqS, q_neS, q_isB, q_isnB, q_isN, q_isnN, q_truB, q_truI, q_isiI, q_isiB, q_isiS, q_isiT, q_isiN, q_lenT, q_gcd, q_abs, q_max, q_min, q_int, q_tupT, q_listT, q_ixT, q_ixL, q_at0, q_at1, q_at2, q_at3, q_at4, q_nm, q_tp, q_asn, q_asc, q_pn, q_pc, wp_bind, wp_ok, List.map_cons, List.map_nil, List.replicate, List.cons_append, List.nil_append, List.append_nil, List.getElem?_cons_zero, List.getElem?_cons_succ, List.set_cons_zero, List.set_cons_succ, List.length_cons, List.length_nil, if_true, if_false, Nat.reduceAdd, Nat.reduceSub, Nat.reduceLT, Nat.reduceLeDiff, Nat.zero_add, Nat.lt_add_one, Nat.zero_lt_succ, decide_true, decide_false, Bool.not_true, Bool.not_false, ne_eq, not_false_eq_true, not_true_eq_false, Int.reduceEq, Int.reduceNe, Int.reduceLT, Int.reduceLE, Int.reduceNeg, Int.reduceToNat, Nat.reducePow, Nat.reduceEqDiff, Bool.false_eq_true, List.any_cons, List.any_nil, Bool.or_false, Bool.or_true, Bool.false_or, Bool.true_or, Ty.sub, Int.cast_ofNat_Int, Int.natCast_zero, Int.natCast_one, eq_self, e]
  exact keepP rfl take_self
theorem div_ok {f r m : Nat} (hf : T.fns[f]? = some (fDiv r)) (hr : RedF T r m) {x y : Int × Int} (hx : x.2 ≠ 0) (hy : y.1 ≠ 0) (bx : Bf 3000 x) (by' : Bf 3000 y) : run T (n + m + 1) f lo [fr x, fr y] S = .ok (fr (divF x y)) S := by
  refine Wp.eq (wp_run hf rfl (wp_b ?_))
  have m1 := mulOk bx.1 by'.2 (by decide)
  have m3 := mulOk bx.2 by'.1 (by decide)
  have e := fun lo => hr n lo S _ _ (mul_ne hx hy) ((bx.1.mul by'.2).mono (by decide)) ((bx.2.mul by'.1).mono (by decide))
  simp only [q_slot, q_cst, q_glo, q_tup, q_lst, q_dic, q_bin, q_neg, q_not, q_cmp, q_ifx, q_isi, q_bi, q_call, q_callk, q_idx, q_slc, q_append, q_extend, q_and, q_or, q_nil, q_cons, q_none, q_some, q_and1, q_and2, q_andT, q_andF, q_andB, q_or1, q_or2, q_orB, q_tval, q_tnot, q_tand, q_tor, q_tcmp, q_tand1, q_tand2, q_tor1, q_tor2, q_cnil, q_ccons, q_set, q_par, q_setix, q_ex, q_ret, q_retN, q_iff, q_pass, q_brk, q_cont, q_bnil, q_nextN, q_nextR, q_nextK, q_nextC, q_bok, q_getS, q_getO, q_t0, q_t1, q_t2, q_t3, q_t4, q_l0, q_l1, q_l2, q_l3, q_l4, q_l5, q_l6, q_l8, q_negI, q_notS, q_okB, q_okI, q_nxO, q_nxS, q_mkNon, q_iteT, q_iteF, q_ofB, q_addI, q_subI, q_mulI, q_fdivI, q_modI, q_powI, q_addT, q_eqI, q_neI, q_ltI, q_leI, q_gtI, q_geI, q_eqB, q_neB, q_eqS, q_neS, q_isB, q_isnB, q_isN, q_isnN, q_truB, q_truI, q_isiI, q_isiB, q_isiS, q_isiT, q_isiN, q_lenT, q_gcd, q_abs, q_max, q_min, q_int, q_tupT, q_listT, q_ixT, q_ixL, q_at0, q_at1, q_at2, q_at3, q_at4, q_nm, q_tp, q_asn, q_asc, q_pn, q_pc, wp_bind, wp_ok, List.map_cons, List.map_nil, List.replicate, List.cons_append, List.nil_append, List.append_nil, List.getElem?_cons_zero, List.getElem?_cons_succ, List.set_cons_zero, List.set_cons_succ, List.length_cons, List.length_nil, if_true, if_false, Nat.reduceAdd, Nat.reduceSub, Nat.reduceLT, Nat.reduceLeDiff, Nat.zero_add, Nat.lt_add_one, Nat.zero_lt_succ, decide_true, decide_false, Bool.not_true, Bool.not_false, ne_eq, not_false_eq_true, not_true_eq_false, Int.reduceEq, Int.reduceNe, Int.reduceLT, Int.reduceLE, Int.reduceNeg, Int.reduceToNat, Nat.reducePow, Nat.reduceEqDiff, Bool.false_eq_true, List.any_cons, List.any_nil, Bool.or_false, Bool.or_true, Bool.false_or, Bool.true_or, Ty.sub, Int.cast_ofNat_Int, Int.natCast_zero, Int.natCast_one, eq_self, fDiv, fr, m1, m3]
  unfold fr at e
  simp only [q_slot, q_cst, q_glo, q_tup, q_lst, q_dic, q_bin, q_neg, q_not, q_cmp, q_ifx, q_isi, q_bi, q_call, q_callk, q_idx, q_slc, q_append, q_extend, q_and, q_or, q_nil, q_cons, q_none, q_some, q_and1, q_and2, q_andT, q_andF, q_andB, q_or1, q_or2, q_orB, q_tval, q_tnot, q_tand, q_tor, q_tcmp, q_tand1, q_tand2, q_tor1, q_tor2, q_cnil, q_ccons, q_set, q_par, q_setix, q_ex, q_ret, q_retN, q_iff, q_pass, q_brk, q_cont, q_bnil, q_nextN, q_nextR, q_nextK, q_nextC, q_bok, q_getS, q_getO, q_t0, q_t1, q_t2, q_t3, q_t4, q_l0, q_l1, q_l2, q_l3, q_l4, q_l5, q_l6, q_l8, q_negI, q_notS, q_okB, q_okI, q_nxO, q_nxS, q_mkNon, q_iteT, q_iteF, q_ofB, q_addI, q_subI, q_mulI, q_fdivI, q_modI, q_powI, q_addT, q_eqI, q_neI, q_ltI, q_leI, q_gtI, q_geI, q_eqB, q_neB, q_eqS, q_neS, q_isB, q_isnB, q_isN, q_isnN, q_truB, q_truI, q_isiI, q_isiB, q_isiS, q_isiT, q_isiN, q_lenT, q_gcd, q_abs, q_max, q_min, q_int, q_tupT, q_listT, q_ixT, q_ixL, q_at0, q_at1, q_at2, q_at3, q_at4, q_nm, q_tp, q_asn, q_asc, q_pn, q_pc, wp_bind, wp_ok, List.map_cons, List.map_nil, List.replicate, List.cons_append, List.nil_append, List.append_nil, List.getElem?_cons_zero, List.getElem?_cons_succ, List.set_cons_zero, List.set_cons_succ, List.length_cons, List.length_nil, if_true, if_false, Nat.reduceAdd, Nat.reduceSub, Nat.reduceLT, Nat.reduceLeDiff, Nat.zero_add, Nat.lt_add_one, Nat.zero_lt_succ, decide_true, decide_false, Bool.not_true, Bool.not_false, ne_eq, not_false_eq_true, not_true_eq_false, Int.reduceEq, Int.reduceNe, Int.reduceLT, Int.reduceLE, Int.reduceNeg, Int.reduceToNat, Nat.reducePow, Nat.reduceEqDiff, Bool.false_eq_true, List.any_cons, List.any_nil, Bool.or_false, Bool.or_true, Bool.false_or, Bool.true_or, Ty.sub, Int.cast_ofNat_Int, Int.natCast_zero, Int.natCast_one, eq_self, e]
  exact keepP rfl take_self
theorem lt_ok {f : Nat} (hf : T.fns[f]? = some fLt) {x y : Int × Int} (bx : Bf 3000 x) (by' : Bf 3000 y) : run T (n + 1) f lo [fr x, fr y] S = .ok (.bl (ltF x y)) S := by
  refine Wp.eq (wp_run hf rfl (wp_b ?_))
  have m1 := mulOk bx.1 by'.2 (by decide)
  have m2 := mulOk by'.1 bx.2 (by decide)
  simp only [q_slot, q_cst, q_glo, q_tup, q_lst, q_dic, q_bin, q_neg, q_not, q_cmp, q_ifx, q_isi, q_bi, q_call, q_callk, q_idx, q_slc, q_append, q_extend, q_and, q_or, q_nil, q_cons, q_none, q_some, q_and1, q_and2, q_andT, q_andF, q_andB, q_or1, q_or2, q_orB, q_tval, q_tnot, q_tand, q_tor, q_tcmp, q_tand1, q_tand2, q_tor1, q_tor2, q_cnil, q_ccons, q_set, q_par, q_setix, q_ex, q_ret, q_retN, q_iff, q_pass, q_brk, q_cont, q_bnil, q_nextN, q_nextR, q_nextK, q_nextC, q_bok, q_getS, q_getO, q_t0, q_t1, q_t2, q_t3, q_t4, q_l0, q_l1, q_l2, q_l3, q_l4, q_l5, q_l6, q_l8, q_negI, q_notS, q_okB, q_okI, q_nxO, q_nxS, q_mkNon, q_iteT, q_iteF, q_ofB, q_addI, q_subI, q_mulI, q_fdivI, q_modI, q_powI, q_addT, q_eqI, q_neI, q_ltI, q_leI, q_gtI, q_geI, q_eqB, q_neB, q_eqS, q_neS, q_isB, q_isnB, q_isN, q_isnN, q_truB, q_truI, q_isiI, q_isiB, q_isiS, q_isiT, q_isiN, q_lenT, q_gcd, q_abs, q_max, q_min, q_int, q_tupT, q_listT, q_ixT, q_ixL, q_at0, q_at1, q_at2, q_at3, q_at4, q_nm, q_tp, q_asn, q_asc, q_pn, q_pc, wp_bind, wp_ok, List.map_cons, List.map_nil, List.replicate, List.cons_append, List.nil_append, List.append_nil, List.getElem?_cons_zero, List.getElem?_cons_succ, List.set_cons_zero, List.set_cons_succ, List.length_cons, List.length_nil, if_true, if_false, Nat.reduceAdd, Nat.reduceSub, Nat.reduceLT, Nat.reduceLeDiff, Nat.zero_add, Nat.lt_add_one, Nat.zero_lt_succ, decide_true, decide_false, Bool.not_true, Bool.not_false, ne_eq, not_false_eq_true, not_true_eq_false, Int.reduceEq, Int.reduceNe, Int.reduceLT, Int.reduceLE, Int.reduceNeg, Int.reduceToNat, Nat.reducePow, Nat.reduceEqDiff, Bool.false_eq_true, List.any_cons, List.any_nil, Bool.or_false, Bool.or_true, Bool.false_or, Bool.true_or, Ty.sub, Int.cast_ofNat_Int, Int.natCast_zero, Int.natCast_one, eq_self, fLt, fr, m1, m2]
  exact keepP rfl take_self
/-! what refuses what is no fraction -/
def ChkF (T : Tab) (c m : Nat) : Prop := ∀ (n lo : Nat) (S : Sto) (x : Int × Int), Fr x → run T (n + m) c lo [fr x] S = .ok (fr x) S
theorem chkF_ok {f ff ii : Nat} (hf : T.fns[f]? = some (fChk ff)) (hff : T.fns[ff]? = some (fIsFr ii)) (hi : T.fns[ii]? = some fIsInt) : ChkF T f 3 := fun _ _ _ _ h => chk_ok hf hff hi h
theorem need_ok {f c m : Nat} (hf : T.fns[f]? = some (fNeed c)) (hc : ChkF T c m) {x : Int × Int} (h : Fr x) : run T (n + m + 1) f lo [fr x] S = .ok (fr x) S := by
  refine Wp.eq (wp_run hf rfl (wp_b ?_))
  simp only [q_slot, q_cst, q_glo, q_tup, q_lst, q_dic, q_bin, q_neg, q_not, q_cmp, q_ifx, q_isi, q_bi, q_call, q_callk, q_idx, q_slc, q_append, q_extend, q_and, q_or, q_nil, q_cons, q_none, q_some, q_and1, q_and2, q_andT, q_andF, q_andB, q_or1, q_or2, q_orB, q_tval, q_tnot, q_tand, q_tor, q_tcmp, q_tand1, q_tand2, q_tor1, q_tor2, q_cnil, q_ccons, q_set, q_par, q_setix, q_ex, q_ret, q_retN, q_iff, q_pass, q_brk, q_cont, q_bnil, q_nextN, q_nextR, q_nextK, q_nextC, q_bok, q_getS, q_getO, q_t0, q_t1, q_t2, q_t3, q_t4, q_l0, q_l1, q_l2, q_l3, q_l4, q_l5, q_l6, q_l8, q_negI, q_notS, q_okB, q_okI, q_nxO, q_nxS, q_mkNon, q_iteT, q_iteF, q_ofB, q_addI, q_subI, q_mulI, q_fdivI, q_modI, q_powI, q_addT, q_eqI, q_neI, q_ltI, q_leI, q_gtI, q_geI, q_eqB, q_neB, q_eqS, q_neS, q_isB, q_isnB, q_isN, q_isnN, q_truB, q_truI, q_isiI, q_isiB, q_isiS, q_isiT, q_isiN, q_lenT, q_gcd, q_abs, q_max, q_min, q_int, q_tupT, q_listT, q_ixT, q_ixL, q_at0, q_at1, q_at2, q_at3, q_at4, q_nm, q_tp, q_asn, q_asc, q_pn, q_pc, wp_bind, wp_ok, List.map_cons, List.map_nil, List.replicate, List.cons_append, List.nil_append, List.append_nil, List.getElem?_cons_zero, List.getElem?_cons_succ, List.set_cons_zero, List.set_cons_succ, List.length_cons, List.length_nil, if_true, if_false, Nat.reduceAdd, Nat.reduceSub, Nat.reduceLT, Nat.reduceLeDiff, Nat.zero_add, Nat.lt_add_one, Nat.zero_lt_succ, decide_true, decide_false, Bool.not_true, Bool.not_false, ne_eq, not_false_eq_true, not_true_eq_false, Int.reduceEq, Int.reduceNe, Int.reduceLT, Int.reduceLE, Int.reduceNeg, Int.reduceToNat, Nat.reducePow, Nat.reduceEqDiff, Bool.false_eq_true, List.any_cons, List.any_nil, Bool.or_false, Bool.or_true, Bool.false_or, Bool.true_or, Ty.sub, Int.cast_ofNat_Int, Int.natCast_zero, Int.natCast_one, eq_self, fNeed, hc n _ S x h]
  exact keepP rfl take_self
theorem two_ok {f c m : Nat} (hf : T.fns[f]? = some (fTwo c)) (hc : ChkF T c m) {x y : Int × Int} (h : Fr x) (g : Fr y) : run T (n + m + 1) f lo [fr x, fr y] S = .ok .non S := by
  refine Wp.eq (wp_run hf rfl (wp_b ?_))
  simp only [q_slot, q_cst, q_glo, q_tup, q_lst, q_dic, q_bin, q_neg, q_not, q_cmp, q_ifx, q_isi, q_bi, q_call, q_callk, q_idx, q_slc, q_append, q_extend, q_and, q_or, q_nil, q_cons, q_none, q_some, q_and1, q_and2, q_andT, q_andF, q_andB, q_or1, q_or2, q_orB, q_tval, q_tnot, q_tand, q_tor, q_tcmp, q_tand1, q_tand2, q_tor1, q_tor2, q_cnil, q_ccons, q_set, q_par, q_setix, q_ex, q_ret, q_retN, q_iff, q_pass, q_brk, q_cont, q_bnil, q_nextN, q_nextR, q_nextK, q_nextC, q_bok, q_getS, q_getO, q_t0, q_t1, q_t2, q_t3, q_t4, q_l0, q_l1, q_l2, q_l3, q_l4, q_l5, q_l6, q_l8, q_negI, q_notS, q_okB, q_okI, q_nxO, q_nxS, q_mkNon, q_iteT, q_iteF, q_ofB, q_addI, q_subI, q_mulI, q_fdivI, q_modI, q_powI, q_addT, q_eqI, q_neI, q_ltI, q_leI, q_gtI, q_geI, q_eqB, q_neB, q_eqS, q_neS, q_isB, q_isnB, q_isN, q_isnN, q_truB, q_truI, q_isiI, q_isiB, q_isiS, q_isiT, q_isiN, q_lenT, q_gcd, q_abs, q_max, q_min, q_int, q_tupT, q_listT, q_ixT, q_ixL, q_at0, q_at1, q_at2, q_at3, q_at4, q_nm, q_tp, q_asn, q_asc, q_pn, q_pc, wp_bind, wp_ok, List.map_cons, List.map_nil, List.replicate, List.cons_append, List.nil_append, List.append_nil, List.getElem?_cons_zero, List.getElem?_cons_succ, List.set_cons_zero, List.set_cons_succ, List.length_cons, List.length_nil, if_true, if_false, Nat.reduceAdd, Nat.reduceSub, Nat.reduceLT, Nat.reduceLeDiff, Nat.zero_add, Nat.lt_add_one, Nat.zero_lt_succ, decide_true, decide_false, Bool.not_true, Bool.not_false, ne_eq, not_false_eq_true, not_true_eq_false, Int.reduceEq, Int.reduceNe, Int.reduceLT, Int.reduceLE, Int.reduceNeg, Int.reduceToNat, Nat.reducePow, Nat.reduceEqDiff, Bool.false_eq_true, List.any_cons, List.any_nil, Bool.or_false, Bool.or_true, Bool.false_or, Bool.true_or, Ty.sub, Int.cast_ofNat_Int, Int.natCast_zero, Int.natCast_one, eq_self, fTwo, hc n _ S x h]
  refine wp_b ?_
  simp only [q_slot, q_cst, q_glo, q_tup, q_lst, q_dic, q_bin, q_neg, q_not, q_cmp, q_ifx, q_isi, q_bi, q_call, q_callk, q_idx, q_slc, q_append, q_extend, q_and, q_or, q_nil, q_cons, q_none, q_some, q_and1, q_and2, q_andT, q_andF, q_andB, q_or1, q_or2, q_orB, q_tval, q_tnot, q_tand, q_tor, q_tcmp, q_tand1, q_tand2, q_tor1, q_tor2, q_cnil, q_ccons, q_set, q_par, q_setix, q_ex, q_ret, q_retN, q_iff, q_pass, q_brk, q_cont, q_bnil, q_nextN, q_nextR, q_nextK, q_nextC, q_bok, q_getS, q_getO, q_t0, q_t1, q_t2, q_t3, q_t4, q_l0, q_l1, q_l2, q_l3, q_l4, q_l5, q_l6, q_l8, q_negI, q_notS, q_okB, q_okI, q_nxO, q_nxS, q_mkNon, q_iteT, q_iteF, q_ofB, q_addI, q_subI, q_mulI, q_fdivI, q_modI, q_powI, q_addT, q_eqI, q_neI, q_ltI, q_leI, q_gtI, q_geI, q_eqB, q_neB, q_eqS, q_neS, q_isB, q_isnB, q_isN, q_isnN, q_truB, q_truI, q_isiI, q_isiB, q_isiS, q_isiT, q_isiN, q_lenT, q_gcd, q_abs, q_max, q_min, q_int, q_tupT, q_listT, q_ixT, q_ixL, q_at0, q_at1, q_at2, q_at3, q_at4, q_nm, q_tp, q_asn, q_asc, q_pn, q_pc, wp_bind, wp_ok, List.map_cons, List.map_nil, List.replicate, List.cons_append, List.nil_append, List.append_nil, List.getElem?_cons_zero, List.getElem?_cons_succ, List.set_cons_zero, List.set_cons_succ, List.length_cons, List.length_nil, if_true, if_false, Nat.reduceAdd, Nat.reduceSub, Nat.reduceLT, Nat.reduceLeDiff, Nat.zero_add, Nat.lt_add_one, Nat.zero_lt_succ, decide_true, decide_false, Bool.not_true, Bool.not_false, ne_eq, not_false_eq_true, not_true_eq_false, Int.reduceEq, Int.reduceNe, Int.reduceLT, Int.reduceLE, Int.reduceNeg, Int.reduceToNat, Nat.reducePow, Nat.reduceEqDiff, Bool.false_eq_true, List.any_cons, List.any_nil, Bool.or_false, Bool.or_true, Bool.false_or, Bool.true_or, Ty.sub, Int.cast_ofNat_Int, Int.natCast_zero, Int.natCast_one, eq_self, hc n _ S y g]
  exact keepP rfl take_self
theorem op_ok {f t o m : Nat} {d : D} (hf : T.fns[f]? = some (fOp t o)) {a b : D} (h1 : ∀ lo S, run T (n + m) t lo [a, b] S = .ok .non S) (h2 : ∀ lo S, run T (n + m) o lo [a, b] S = .ok d S) (hp : pureD d = true) : run T (n + m + 1) f lo [a, b] S = .ok d S := by
  refine Wp.eq (wp_run hf rfl (wp_b ?_))
  simp only [q_slot, q_cst, q_glo, q_tup, q_lst, q_dic, q_bin, q_neg, q_not, q_cmp, q_ifx, q_isi, q_bi, q_call, q_callk, q_idx, q_slc, q_append, q_extend, q_and, q_or, q_nil, q_cons, q_none, q_some, q_and1, q_and2, q_andT, q_andF, q_andB, q_or1, q_or2, q_orB, q_tval, q_tnot, q_tand, q_tor, q_tcmp, q_tand1, q_tand2, q_tor1, q_tor2, q_cnil, q_ccons, q_set, q_par, q_setix, q_ex, q_ret, q_retN, q_iff, q_pass, q_brk, q_cont, q_bnil, q_nextN, q_nextR, q_nextK, q_nextC, q_bok, q_getS, q_getO, q_t0, q_t1, q_t2, q_t3, q_t4, q_l0, q_l1, q_l2, q_l3, q_l4, q_l5, q_l6, q_l8, q_negI, q_notS, q_okB, q_okI, q_nxO, q_nxS, q_mkNon, q_iteT, q_iteF, q_ofB, q_addI, q_subI, q_mulI, q_fdivI, q_modI, q_powI, q_addT, q_eqI, q_neI, q_ltI, q_leI, q_gtI, q_geI, q_eqB, q_neB, q_eqS, q_neS, q_isB, q_isnB, q_isN, q_isnN, q_truB, q_truI, q_isiI, q_isiB, q_isiS, q_isiT, q_isiN, q_lenT, q_gcd, q_abs, q_max, q_min, q_int, q_tupT, q_listT, q_ixT, q_ixL, q_at0, q_at1, q_at2, q_at3, q_at4, q_nm, q_tp, q_asn, q_asc, q_pn, q_pc, wp_bind, wp_ok, List.map_cons, List.map_nil, List.replicate, List.cons_append, List.nil_append, List.append_nil, List.getElem?_cons_zero, List.getElem?_cons_succ, List.set_cons_zero, List.set_cons_succ, List.length_cons, List.length_nil, if_true, if_false, Nat.reduceAdd, Nat.reduceSub, Nat.reduceLT, Nat.reduceLeDiff, Nat.zero_add, Nat.lt_add_one, Nat.zero_lt_succ, decide_true, decide_false, Bool.not_true, Bool.not_false, ne_eq, not_false_eq_true, not_true_eq_false, Int.reduceEq, Int.reduceNe, Int.reduceLT, Int.reduceLE, Int.reduceNeg, Int.reduceToNat, Nat.reducePow, Nat.reduceEqDiff, Bool.false_eq_true, List.any_cons, List.any_nil, Bool.or_false, Bool.or_true, Bool.false_or, Bool.true_or, Ty.sub, Int.cast_ofNat_Int, Int.natCast_zero, Int.natCast_one, eq_self, fOp, h1]
  refine wp_b ?_
  simp only [q_slot, q_cst, q_glo, q_tup, q_lst, q_dic, q_bin, q_neg, q_not, q_cmp, q_ifx, q_isi, q_bi, q_call, q_callk, q_idx, q_slc, q_append, q_extend, q_and, q_or, q_nil, q_cons, q_none, q_some, q_and1, q_and2, q_andT, q_andF, q_andB, q_or1, q_or2, q_orB, q_tval, q_tnot, q_tand, q_tor, q_tcmp, q_tand1, q_tand2, q_tor1, q_tor2, q_cnil, q_ccons, q_set, q_par, q_setix, q_ex, q_ret, q_retN, q_iff, q_pass, q_brk, q_cont, q_bnil, q_nextN, q_nextR, q_nextK, q_nextC, q_bok, q_getS, q_getO, q_t0, q_t1, q_t2, q_t3, q_t4, q_l0, q_l1, q_l2, q_l3, q_l4, q_l5, q_l6, q_l8, q_negI, q_notS, q_okB, q_okI, q_nxO, q_nxS, q_mkNon, q_iteT, q_iteF, q_ofB, q_addI, q_subI, q_mulI, q_fdivI, q_modI, q_powI, q_addT, q_eqI, q_neI, q_ltI, q_leI, q_gtI, q_geI, q_eqB, q_neB, q_eqS, q_neS, q_isB, q_isnB, q_isN, q_isnN, q_truB, q_truI, q_isiI, q_isiB, q_isiS, q_isiT, q_isiN, q_lenT, q_gcd, q_abs, q_max, q_min, q_int, q_tupT, q_listT, q_ixT, q_ixL, q_at0, q_at1, q_at2, q_at3, q_at4, q_nm, q_tp, q_asn, q_asc, q_pn, q_pc, wp_bind, wp_ok, List.map_cons, List.map_nil, List.replicate, List.cons_append, List.nil_append, List.append_nil, List.getElem?_cons_zero, List.getElem?_cons_succ, List.set_cons_zero, List.set_cons_succ, List.length_cons, List.length_nil, if_true, if_false, Nat.reduceAdd, Nat.reduceSub, Nat.reduceLT, Nat.reduceLeDiff, Nat.zero_add, Nat.lt_add_one, Nat.zero_lt_succ, decide_true, decide_false, Bool.not_true, Bool.not_false, ne_eq, not_false_eq_true, not_true_eq_false, Int.reduceEq, Int.reduceNe, Int.reduceLT, Int.reduceLE, Int.reduceNeg, Int.reduceToNat, Nat.reducePow, Nat.reduceEqDiff, Bool.false_eq_true, List.any_cons, List.any_nil, Bool.or_false, Bool.or_true, Bool.false_or, Bool.true_or, Ty.sub, Int.cast_ofNat_Int, Int.natCast_zero, Int.natCast_one, eq_self, h2]
  exact keepP hp take_self
theorem make_ok {f ii r m : Nat} (hf : T.fns[f]? = some (fMake ii r)) (hi : T.fns[ii]? = some fIsInt) (hr : RedF T r (m + 1)) {a b : Int} (hb : b ≠ 0) (ba : Bt 8000 a) (bb : Bt 8000 b) : run T (n + m + 2) f lo [.int a, .int b] S = .ok (fr (red a b)) S := by
  refine Wp.eq (wp_run hf rfl (wp_b ?_))
  simp only [q_slot, q_cst, q_glo, q_tup, q_lst, q_dic, q_bin, q_neg, q_not, q_cmp, q_ifx, q_isi, q_bi, q_call, q_callk, q_idx, q_slc, q_append, q_extend, q_and, q_or, q_nil, q_cons, q_none, q_some, q_and1, q_and2, q_andT, q_andF, q_andB, q_or1, q_or2, q_orB, q_tval, q_tnot, q_tand, q_tor, q_tcmp, q_tand1, q_tand2, q_tor1, q_tor2, q_cnil, q_ccons, q_set, q_par, q_setix, q_ex, q_ret, q_retN, q_iff, q_pass, q_brk, q_cont, q_bnil, q_nextN, q_nextR, q_nextK, q_nextC, q_bok, q_getS, q_getO, q_t0, q_t1, q_t2, q_t3, q_t4, q_l0, q_l1, q_l2, q_l3, q_l4, q_l5, q_l6, q_l8, q_negI, q_notS, q_okB, q_okI, q_nxO, q_nxS, q_mkNon, q_iteT, q_iteF, q_ofB, q_addI, q_subI, q_mulI, q_fdivI, q_modI, q_powI, q_addT, q_eqI, q_neI, q_ltI, q_leI, q_gtI, q_geI, q_eqB, q_neB, q_eqS, q_neS, q_isB, q_isnB, q_isN, q_isnN, q_truB, q_truI, q_isiI, q_isiB, q_isiS, q_isiT, q_isiN, q_lenT, q_gcd, q_abs, q_max, q_min, q_int, q_tupT, q_listT, q_ixT, q_ixL, q_at0, q_at1, q_at2, q_at3, q_at4, q_nm, q_tp, q_asn, q_asc, q_pn, q_pc, wp_bind, wp_ok, List.map_cons, List.map_nil, List.replicate, List.cons_append, List.nil_append, List.append_nil, List.getElem?_cons_zero, List.getElem?_cons_succ, List.set_cons_zero, List.set_cons_succ, List.length_cons, List.length_nil, if_true, if_false, Nat.reduceAdd, Nat.reduceSub, Nat.reduceLT, Nat.reduceLeDiff, Nat.zero_add, Nat.lt_add_one, Nat.zero_lt_succ, decide_true, decide_false, Bool.not_true, Bool.not_false, ne_eq, not_false_eq_true, not_true_eq_false, Int.reduceEq, Int.reduceNe, Int.reduceLT, Int.reduceLE, Int.reduceNeg, Int.reduceToNat, Nat.reducePow, Nat.reduceEqDiff, Bool.false_eq_true, List.any_cons, List.any_nil, Bool.or_false, Bool.or_true, Bool.false_or, Bool.true_or, Ty.sub, Int.cast_ofNat_Int, Int.natCast_zero, Int.natCast_one, eq_self, fMake, isInt_ok hi]
  refine wp_b ?_
  simp only [q_slot, q_cst, q_glo, q_tup, q_lst, q_dic, q_bin, q_neg, q_not, q_cmp, q_ifx, q_isi, q_bi, q_call, q_callk, q_idx, q_slc, q_append, q_extend, q_and, q_or, q_nil, q_cons, q_none, q_some, q_and1, q_and2, q_andT, q_andF, q_andB, q_or1, q_or2, q_orB, q_tval, q_tnot, q_tand, q_tor, q_tcmp, q_tand1, q_tand2, q_tor1, q_tor2, q_cnil, q_ccons, q_set, q_par, q_setix, q_ex, q_ret, q_retN, q_iff, q_pass, q_brk, q_cont, q_bnil, q_nextN, q_nextR, q_nextK, q_nextC, q_bok, q_getS, q_getO, q_t0, q_t1, q_t2, q_t3, q_t4, q_l0, q_l1, q_l2, q_l3, q_l4, q_l5, q_l6, q_l8, q_negI, q_notS, q_okB, q_okI, q_nxO, q_nxS, q_mkNon, q_iteT, q_iteF, q_ofB, q_addI, q_subI, q_mulI, q_fdivI, q_modI, q_powI, q_addT, q_eqI, q_neI, q_ltI, q_leI, q_gtI, q_geI, q_eqB, q_neB, q_eqS, q_neS, q_isB, q_isnB, q_isN, q_isnN, q_truB, q_truI, q_isiI, q_isiB, q_isiS, q_isiT, q_isiN, q_lenT, q_gcd, q_abs, q_max, q_min, q_int, q_tupT, q_listT, q_ixT, q_ixL, q_at0, q_at1, q_at2, q_at3, q_at4, q_nm, q_tp, q_asn, q_asc, q_pn, q_pc, wp_bind, wp_ok, List.map_cons, List.map_nil, List.replicate, List.cons_append, List.nil_append, List.append_nil, List.getElem?_cons_zero, List.getElem?_cons_succ, List.set_cons_zero, List.set_cons_succ, List.length_cons, List.length_nil, if_true, if_false, Nat.reduceAdd, Nat.reduceSub, Nat.reduceLT, Nat.reduceLeDiff, Nat.zero_add, Nat.lt_add_one, Nat.zero_lt_succ, decide_true, decide_false, Bool.not_true, Bool.not_false, ne_eq, not_false_eq_true, not_true_eq_false, Int.reduceEq, Int.reduceNe, Int.reduceLT, Int.reduceLE, Int.reduceNeg, Int.reduceToNat, Nat.reducePow, Nat.reduceEqDiff, Bool.false_eq_true, List.any_cons, List.any_nil, Bool.or_false, Bool.or_true, Bool.false_or, Bool.true_or, Ty.sub, Int.cast_ofNat_Int, Int.natCast_zero, Int.natCast_one, eq_self, isInt_ok hi, hb]
  refine wp_b ?_
  have e := fun lo => hr n lo S a b hb ba bb
  simp only [q_slot, q_cst, q_glo, q_tup, q_lst, q_dic, q_bin, q_neg, q_not, q_cmp, q_ifx, q_isi, q_bi, q_call, q_callk, q_idx, q_slc, q_append, q_extend, q_and, q_or, q_nil, q_cons, q_none, q_some, q_and1, q_and2, q_andT, q_andF, q_andB, q_or1, q_or2, q_orB, q_tval, q_tnot, q_tand, q_tor, q_tcmp, q_tand1, q_tand2, q_tor1, q_tor2, q_cnil, q_ccons, q_set, q_par, q_setix, q_ex, q_ret, q_retN, q_iff, q_pass, q_brk, q_cont, q_bnil, q_nextN, q_nextR, q_nextK, q_nextC, q_bok, q_getS, q_getO, q_t0, q_t1, q_t2, q_t3, q_t4, q_l0, q_l1, q_l2, q_l3, q_l4, q_l5, q_l6, q_l8, q_negI, q_notS, q_okB, q_okI, q_nxO, q_nxS, q_mkNon, q_iteT, q_iteF, q_ofB, q_addI, q_subI, q_mulI, q_fdivI, q_modI, q_powI, q_addT, q_eqI, q_neI, q_ltI, q_leI, q_gtI, q_geI, q_eqB, q_neB, q_eqS, q_neS, q_isB, q_isnB, q_isN, q_isnN, q_truB, q_truI, q_isiI, q_isiB, q_isiS, q_isiT, q_isiN, q_lenT, q_gcd, q_abs, q_max, q_min, q_int, q_tupT, q_listT, q_ixT, q_ixL, q_at0, q_at1, q_at2, q_at3, q_at4, q_nm, q_tp, q_asn, q_asc, q_pn, q_pc, wp_bind, wp_ok, List.map_cons, List.map_nil, List.replicate, List.cons_append, List.nil_append, List.append_nil, List.getElem?_cons_zero, List.getElem?_cons_succ, List.set_cons_zero, List.set_cons_succ, List.length_cons, List.length_nil, if_true, if_false, Nat.reduceAdd, Nat.reduceSub, Nat.reduceLT, Nat.reduceLeDiff, Nat.zero_add, Nat.lt_add_one, Nat.zero_lt_succ, decide_true, decide_false, Bool.not_true, Bool.not_false, ne_eq, not_false_eq_true, not_true_eq_false, Int.reduceEq, Int.reduceNe, Int.reduceLT, Int.reduceLE, Int.reduceNeg, Int.reduceToNat, Nat.reducePow, Nat.reduceEqDiff, Bool.false_eq_true, List.any_cons, List.any_nil, Bool.or_false, Bool.or_true, Bool.false_or, Bool.true_or, Ty.sub, Int.cast_ofNat_Int, Int.natCast_zero, Int.natCast_one, eq_self]
  rw [show n + m + 1 = n + (m + 1) from rfl, e]
  simp only [q_slot, q_cst, q_glo, q_tup, q_lst, q_dic, q_bin, q_neg, q_not, q_cmp, q_ifx, q_isi, q_bi, q_call, q_callk, q_idx, q_slc, q_append, q_extend, q_and, q_or, q_nil, q_cons, q_none, q_some, q_and1, q_and2, q_andT, q_andF, q_andB, q_or1, q_or2, q_orB, q_tval, q_tnot, q_tand, q_tor, q_tcmp, q_tand1, q_tand2, q_tor1, q_tor2, q_cnil, q_ccons, q_set, q_par, q_setix, q_ex, q_ret, q_retN, q_iff, q_pass, q_brk, q_cont, q_bnil, q_nextN, q_nextR, q_nextK, q_nextC, q_bok, q_getS, q_getO, q_t0, q_t1, q_t2, q_t3, q_t4, q_l0, q_l1, q_l2, q_l3, q_l4, q_l5, q_l6, q_l8, q_negI, q_notS, q_okB, q_okI, q_nxO, q_nxS, q_mkNon, q_iteT, q_iteF, q_ofB, q_addI, q_subI, q_mulI, q_fdivI, q_modI, q_powI, q_addT, q_eqI, q_neI, q_ltI, q_leI, q_gtI, q_geI, q_eqB, q_neB, q_eqS, q_neS, q_isB, q_isnB, q_isN, q_isnN, q_truB, q_truI, q_isiI, q_isiB, q_isiS, q_isiT, q_isiN, q_lenT, q_gcd, q_abs, q_max, q_min, q_int, q_tupT, q_listT, q_ixT, q_ixL, q_at0, q_at1, q_at2, q_at3, q_at4, q_nm, q_tp, q_asn, q_asc, q_pn, q_pc, wp_bind, wp_ok, List.map_cons, List.map_nil, List.replicate, List.cons_append, List.nil_append, List.append_nil, List.getElem?_cons_zero, List.getElem?_cons_succ, List.set_cons_zero, List.set_cons_succ, List.length_cons, List.length_nil, if_true, if_false, Nat.reduceAdd, Nat.reduceSub, Nat.reduceLT, Nat.reduceLeDiff, Nat.zero_add, Nat.lt_add_one, Nat.zero_lt_succ, decide_true, decide_false, Bool.not_true, Bool.not_false, ne_eq, not_false_eq_true, not_true_eq_false, Int.reduceEq, Int.reduceNe, Int.reduceLT, Int.reduceLE, Int.reduceNeg, Int.reduceToNat, Nat.reducePow, Nat.reduceEqDiff, Bool.false_eq_true, List.any_cons, List.any_nil, Bool.or_false, Bool.or_true, Bool.false_or, Bool.true_or, Ty.sub, Int.cast_ofNat_Int, Int.natCast_zero, Int.natCast_one, eq_self]
  exact keepP rfl take_self
end
end Pd
namespace Pd
open PySem
/-! ### equal fractions -/
theorem dump_fr {S : Sto} {n : Nat} {x : Int × Int} : dump S (n + 1) (fr x) = some (.tuple [.int x.1, .int x.2]) := by
  unfold fr dump
  simp only [dumps, dump, Option.map_some]
theorem shaped_fr {x : Int × Int} : SeqAt.shaped (.tuple [.int x.1, .int x.2]) = true := by
  unfold SeqAt.shaped
  simp only [PyData.canLay0, PyData.canLayAll0, PyData.depth, PyData.depthAll]
  rfl
theorem q_eqF {S : Sto} {x y : Int × Int} : compOp .eq (fr x) (fr y) S = some (decide (x = y)) := by
  show eqD S (fr x) (fr y) = _
  have e : eqD S (fr x) (fr y) = (match dump S 60 (fr x), dump S 60 (fr y) with
    | some p, some q => if SeqAt.shaped p && SeqAt.shaped q then some (PyData.eqv p q) else none
    | _, _ => none) := rfl
  rw [e, dump_fr, dump_fr]
  simp only [shaped_fr, Bool.and_self, if_true]
  simp only [PyData.eqv, PyData.eqvAll, Bool.and_true]
  obtain ⟨a, b⟩ := x
  obtain ⟨c, d⟩ := y
  congr 1
  by_cases h1 : a = c
  · subst h1
    by_cases h2 : b = d
    · subst h2; simp
    · simp [h2]
  · simp [h1]
/-! ### Euclid's way -/
def bEuc : List IS := [.iff (.cmp .eq (.slot 1) (.cst (.int 0))) [.ret (.slot 0)] [], .par [0, 1] [.slot 1, .bin .mod (.slot 0) (.slot 1)]]
def fEuc : Fn := ⟨2, 3, true, [.par [0, 1] [.bi .abs [.slot 0], .bi .abs [.slot 1]], .loop (.nm 2) .range [.cst (.int 100000)] bEuc, .ret (.slot 0)]⟩
abbrev eucF (C : Cx) : D → Env → Sto → Out Fl := loopF C (.nm 2) bEuc
theorem euc_turn {C : Cx} {a b : Nat} {x : Option D} {i : Int} {S : Sto} : eucF C (.int i) [some (.int a), some (.int b), x] S = if b = 0 then .ok (.rt (.int a)) S else .ok (.nx [some (.int b), some (.int ((a % b : Nat) : Int)), some (.int i)]) S := by
  show evB C bEuc [some (.int a), some (.int b), some (.int i)] S = _
  by_cases h : b = 0
  · subst h
    rw [if_pos rfl]
    have : Wp (evB C bEuc [some (.int a), some (.int ((0 : Nat) : Int)), some (.int i)] S) fun fl S' => fl = .rt (.int a) ∧ S' = S := by
      refine wp_b ?_
      simp only [q_slot, q_cst, q_glo, q_tup, q_lst, q_dic, q_bin, q_neg, q_not, q_cmp, q_ifx, q_isi, q_bi, q_call, q_callk, q_idx, q_slc, q_append, q_extend, q_and, q_or, q_nil, q_cons, q_none, q_some, q_and1, q_and2, q_andT, q_andF, q_andB, q_or1, q_or2, q_orB, q_tval, q_tnot, q_tand, q_tor, q_tcmp, q_tand1, q_tand2, q_tor1, q_tor2, q_cnil, q_ccons, q_set, q_par, q_setix, q_ex, q_ret, q_retN, q_iff, q_pass, q_brk, q_cont, q_bnil, q_nextN, q_nextR, q_nextK, q_nextC, q_bok, q_getS, q_getO, q_t0, q_t1, q_t2, q_t3, q_t4, q_l0, q_l1, q_l2, q_l3, q_l4, q_l5, q_l6, q_l8, q_negI, q_notS, q_okB, q_okI, q_nxO, q_nxS, q_mkNon, q_iteT, q_iteF, q_ofB, q_addI, q_subI, q_mulI, q_fdivI, q_modI, q_powI, q_addT, q_eqI, q_neI, q_ltI, q_leI, q_gtI, q_geI, q_eqB, q_neB, q_eqS, q_neS, q_isB, q_isnB, q_isN, q_isnN, q_truB, q_truI, q_isiI, q_isiB, q_isiS, q_isiT, q_isiN, q_lenT, q_gcd, q_abs, q_max, q_min, q_int, q_tupT, q_listT, q_ixT, q_ixL, q_at0, q_at1, q_at2, q_at3, q_at4, q_nm, q_tp, q_asn, q_asc, q_pn, q_pc, wp_bind, wp_ok, List.map_cons, List.map_nil, List.replicate, List.cons_append, List.nil_append, List.append_nil, List.getElem?_cons_zero, List.getElem?_cons_succ, List.set_cons_zero, List.set_cons_succ, List.length_cons, List.length_nil, if_true, if_false, Nat.reduceAdd, Nat.reduceSub, Nat.reduceLT, Nat.reduceLeDiff, Nat.zero_add, Nat.lt_add_one, Nat.zero_lt_succ, decide_true, decide_false, Bool.not_true, Bool.not_false, ne_eq, not_false_eq_true, not_true_eq_false, Int.reduceEq, Int.reduceNe, Int.reduceLT, Int.reduceLE, Int.reduceNeg, Int.reduceToNat, Nat.reducePow, Nat.reduceEqDiff, Bool.false_eq_true, List.any_cons, List.any_nil, Bool.or_false, Bool.or_true, Bool.false_or, Bool.true_or, Ty.sub, Int.cast_ofNat_Int, Int.natCast_zero, Int.natCast_one, eq_self]
      first | exact wp_ok.mpr ⟨rfl, rfl⟩ | exact ⟨rfl, rfl⟩ | exact ⟨trivial, trivial⟩
    obtain ⟨_, _, e, rfl, rfl⟩ := this
    exact e
  · rw [if_neg h]
    have hb : (b : Int) ≠ 0 := by omega
    have : Wp (evB C bEuc [some (.int a), some (.int b), some (.int i)] S) fun fl S' => fl = .nx [some (.int b), some (.int ((a % b : Nat) : Int)), some (.int i)] ∧ S' = S := by
      refine wp_b ?_
      simp only [q_slot, q_cst, q_glo, q_tup, q_lst, q_dic, q_bin, q_neg, q_not, q_cmp, q_ifx, q_isi, q_bi, q_call, q_callk, q_idx, q_slc, q_append, q_extend, q_and, q_or, q_nil, q_cons, q_none, q_some, q_and1, q_and2, q_andT, q_andF, q_andB, q_or1, q_or2, q_orB, q_tval, q_tnot, q_tand, q_tor, q_tcmp, q_tand1, q_tand2, q_tor1, q_tor2, q_cnil, q_ccons, q_set, q_par, q_setix, q_ex, q_ret, q_retN, q_iff, q_pass, q_brk, q_cont, q_bnil, q_nextN, q_nextR, q_nextK, q_nextC, q_bok, q_getS, q_getO, q_t0, q_t1, q_t2, q_t3, q_t4, q_l0, q_l1, q_l2, q_l3, q_l4, q_l5, q_l6, q_l8, q_negI, q_notS, q_okB, q_okI, q_nxO, q_nxS, q_mkNon, q_iteT, q_iteF, q_ofB, q_addI, q_subI, q_mulI, q_fdivI, q_modI, q_powI, q_addT, q_eqI, q_neI, q_ltI, q_leI, q_gtI, q_geI, q_eqB, q_neB, q_eqS, q_neS, q_isB, q_isnB, q_isN, q_isnN, q_truB, q_truI, q_isiI, q_isiB, q_isiS, q_isiT, q_isiN, q_lenT, q_gcd, q_abs, q_max, q_min, q_int, q_tupT, q_listT, q_ixT, q_ixL, q_at0, q_at1, q_at2, q_at3, q_at4, q_nm, q_tp, q_asn, q_asc, q_pn, q_pc, wp_bind, wp_ok, List.map_cons, List.map_nil, List.replicate, List.cons_append, List.nil_append, List.append_nil, List.getElem?_cons_zero, List.getElem?_cons_succ, List.set_cons_zero, List.set_cons_succ, List.length_cons, List.length_nil, if_true, if_false, Nat.reduceAdd, Nat.reduceSub, Nat.reduceLT, Nat.reduceLeDiff, Nat.zero_add, Nat.lt_add_one, Nat.zero_lt_succ, decide_true, decide_false, Bool.not_true, Bool.not_false, ne_eq, not_false_eq_true, not_true_eq_false, Int.reduceEq, Int.reduceNe, Int.reduceLT, Int.reduceLE, Int.reduceNeg, Int.reduceToNat, Nat.reducePow, Nat.reduceEqDiff, Bool.false_eq_true, List.any_cons, List.any_nil, Bool.or_false, Bool.or_true, Bool.false_or, Bool.true_or, Ty.sub, Int.cast_ofNat_Int, Int.natCast_zero, Int.natCast_one, eq_self, hb]
      refine wp_b ?_
      have e : (a : Int).fmod b = ((a % b : Nat) : Int) := by rw [Int.fmod_eq_emod_of_nonneg _ (by omega)]; rfl
      simp only [q_slot, q_cst, q_glo, q_tup, q_lst, q_dic, q_bin, q_neg, q_not, q_cmp, q_ifx, q_isi, q_bi, q_call, q_callk, q_idx, q_slc, q_append, q_extend, q_and, q_or, q_nil, q_cons, q_none, q_some, q_and1, q_and2, q_andT, q_andF, q_andB, q_or1, q_or2, q_orB, q_tval, q_tnot, q_tand, q_tor, q_tcmp, q_tand1, q_tand2, q_tor1, q_tor2, q_cnil, q_ccons, q_set, q_par, q_setix, q_ex, q_ret, q_retN, q_iff, q_pass, q_brk, q_cont, q_bnil, q_nextN, q_nextR, q_nextK, q_nextC, q_bok, q_getS, q_getO, q_t0, q_t1, q_t2, q_t3, q_t4, q_l0, q_l1, q_l2, q_l3, q_l4, q_l5, q_l6, q_l8, q_negI, q_notS, q_okB, q_okI, q_nxO, q_nxS, q_mkNon, q_iteT, q_iteF, q_ofB, q_addI, q_subI, q_mulI, q_fdivI, q_modI, q_powI, q_addT, q_eqI, q_neI, q_ltI, q_leI, q_gtI, q_geI, q_eqB, q_neB, q_eqS, q_neS, q_isB, q_isnB, q_isN, q_isnN, q_truB, q_truI, q_isiI, q_isiB, q_isiS, q_isiT, q_isiN, q_lenT, q_gcd, q_abs, q_max, q_min, q_int, q_tupT, q_listT, q_ixT, q_ixL, q_at0, q_at1, q_at2, q_at3, q_at4, q_nm, q_tp, q_asn, q_asc, q_pn, q_pc, wp_bind, wp_ok, List.map_cons, List.map_nil, List.replicate, List.cons_append, List.nil_append, List.append_nil, List.getElem?_cons_zero, List.getElem?_cons_succ, List.set_cons_zero, List.set_cons_succ, List.length_cons, List.length_nil, if_true, if_false, Nat.reduceAdd, Nat.reduceSub, Nat.reduceLT, Nat.reduceLeDiff, Nat.zero_add, Nat.lt_add_one, Nat.zero_lt_succ, decide_true, decide_false, Bool.not_true, Bool.not_false, ne_eq, not_false_eq_true, not_true_eq_false, Int.reduceEq, Int.reduceNe, Int.reduceLT, Int.reduceLE, Int.reduceNeg, Int.reduceToNat, Nat.reducePow, Nat.reduceEqDiff, Bool.false_eq_true, List.any_cons, List.any_nil, Bool.or_false, Bool.or_true, Bool.false_or, Bool.true_or, Ty.sub, Int.cast_ofNat_Int, Int.natCast_zero, Int.natCast_one, eq_self, hb, e]
      first | exact wp_ok.mpr ⟨rfl, rfl⟩ | exact ⟨rfl, rfl⟩ | exact ⟨trivial, trivial⟩
    obtain ⟨_, _, e, rfl, rfl⟩ := this
    exact e
theorem euc_loop {C : Cx} {S : Sto} : ∀ (k : Nat) (a b : Nat) (x : Option D) (i m : Nat), b < 2 ^ k → i + 2 * k + 1 ≤ 100000 → 2 * k + 2 ≤ m → forL (.rng 0 100000) (eucF C) m i [some (.int a), some (.int b), x] S = .ok (.rt (.int ((Nat.gcd a b : Nat) : Int))) S := by
  have step : ∀ (a b : Nat) (x : Option D) (i m : Nat), i < 100000 → forL (.rng 0 100000) (eucF C) (m + 1) i [some (.int a), some (.int b), x] S =
      if b = 0 then .ok (.rt (.int a)) S else forL (.rng 0 100000) (eucF C) m (i + 1) [some (.int b), some (.int ((a % b : Nat) : Int)), some (.int (0 + (i : Int)))] S := by
    intro a b x i m hi
    conv => lhs; unfold forL
    have : Src.item S (.rng 0 100000) i = some (some (.int (0 + (i : Int)))) := by unfold Src.item; rw [if_pos hi]
    rw [this]
    dsimp only
    rw [euc_turn]
    by_cases h : b = 0
    · rw [if_pos h, if_pos h]; rfl
    · rw [if_neg h, if_neg h]; rfl
  intro k
  induction k with
  | zero =>
    intro a b x i m hb hi hm
    have hb0 : b = 0 := by simpa using hb
    subst hb0
    obtain ⟨m, rfl⟩ : ∃ m', m = m' + 1 := ⟨m - 1, by omega⟩
    rw [step a 0 x i m (by omega), if_pos rfl, Nat.gcd_zero_right]
  | succ k ih =>
    intro a b x i m hb hi hm
    obtain ⟨m, rfl⟩ : ∃ m', m = m' + 2 := ⟨m - 2, by omega⟩
    rw [step a b x i (m + 1) (by omega)]
    by_cases h : b = 0
    · subst h
      rw [if_pos rfl, Nat.gcd_zero_right]
    · rw [if_neg h, step b (a % b) _ (i + 1) m (by omega)]
      by_cases h2 : a % b = 0
      · rw [if_pos h2]
        have : Nat.gcd a b = b := by
          rw [Nat.gcd_comm, Nat.gcd_eq_left (Nat.dvd_of_mod_eq_zero h2)]
        rw [this]
      · rw [if_neg h2]
        have hr : a % b < b := Nat.mod_lt _ (by omega)
        have hlt : b % (a % b) < 2 ^ k := by
          have h3 : b % (a % b) < a % b := Nat.mod_lt _ (by omega)
          have h4 : b % (a % b) ≤ b - a % b := by
            rw [Nat.mod_eq_sub_mod (by omega)]
            exact Nat.mod_le _ _
          rw [Nat.pow_succ] at hb
          omega
        rw [ih (a % b) (b % (a % b)) _ (i + 2) m hlt (by omega) (by omega)]
        have e1 : Nat.gcd a b = Nat.gcd b (a % b) := by rw [Nat.gcd_comm, Nat.gcd_rec, Nat.gcd_comm]
        have e2 : Nat.gcd b (a % b) = Nat.gcd (a % b) (b % (a % b)) := by rw [Nat.gcd_comm, Nat.gcd_rec, Nat.gcd_comm]
        rw [e1, e2]
section
variable {T : Tab} {n lo : Nat} {S : Sto}
theorem abs_nat {a : Int} : (if a < 0 then -a else a) = (a.natAbs : Int) := by split <;> omega
theorem loop_rng {C : Cx} {σ : Env} {t : Tg} {body : List IS} {j : Int} (h : inB j = true) : evS C (.loop t .range [.cst (.int j)] body) σ S = forL (.rng 0 j.toNat) (loopF C t body) (j.toNat + 1) 0 σ S :=
  loop_eval (S1 := S) (ds := [.int j]) rfl (show mkSrc S .range [.int j] = some (.rng 0 j.toNat) from if_pos h)
theorem euc_ok {f : Nat} (hf : T.fns[f]? = some fEuc) {a b : Int} (hb : Bt 8000 b) : run T (n + 1) f lo [.int a, .int b] S = .ok (.int (gcdI a b)) S := by
  refine Wp.eq (wp_run hf rfl (wp_b ?_))
  simp only [q_slot, q_cst, q_glo, q_tup, q_lst, q_dic, q_bin, q_neg, q_not, q_cmp, q_ifx, q_isi, q_bi, q_call, q_callk, q_idx, q_slc, q_append, q_extend, q_and, q_or, q_nil, q_cons, q_none, q_some, q_and1, q_and2, q_andT, q_andF, q_andB, q_or1, q_or2, q_orB, q_tval, q_tnot, q_tand, q_tor, q_tcmp, q_tand1, q_tand2, q_tor1, q_tor2, q_cnil, q_ccons, q_set, q_par, q_setix, q_ex, q_ret, q_retN, q_iff, q_pass, q_brk, q_cont, q_bnil, q_nextN, q_nextR, q_nextK, q_nextC, q_bok, q_getS, q_getO, q_t0, q_t1, q_t2, q_t3, q_t4, q_l0, q_l1, q_l2, q_l3, q_l4, q_l5, q_l6, q_l8, q_negI, q_notS, q_okB, q_okI, q_nxO, q_nxS, q_mkNon, q_iteT, q_iteF, q_ofB, q_addI, q_subI, q_mulI, q_fdivI, q_modI, q_powI, q_addT, q_eqI, q_neI, q_ltI, q_leI, q_gtI, q_geI, q_eqB, q_neB, q_eqS, q_neS, q_isB, q_isnB, q_isN, q_isnN, q_truB, q_truI, q_isiI, q_isiB, q_isiS, q_isiT, q_isiN, q_lenT, q_gcd, q_abs, q_max, q_min, q_int, q_tupT, q_listT, q_ixT, q_ixL, q_at0, q_at1, q_at2, q_at3, q_at4, q_nm, q_tp, q_asn, q_asc, q_pn, q_pc, wp_bind, wp_ok, List.map_cons, List.map_nil, List.replicate, List.cons_append, List.nil_append, List.append_nil, List.getElem?_cons_zero, List.getElem?_cons_succ, List.set_cons_zero, List.set_cons_succ, List.length_cons, List.length_nil, if_true, if_false, Nat.reduceAdd, Nat.reduceSub, Nat.reduceLT, Nat.reduceLeDiff, Nat.zero_add, Nat.lt_add_one, Nat.zero_lt_succ, decide_true, decide_false, Bool.not_true, Bool.not_false, ne_eq, not_false_eq_true, not_true_eq_false, Int.reduceEq, Int.reduceNe, Int.reduceLT, Int.reduceLE, Int.reduceNeg, Int.reduceToNat, Nat.reducePow, Nat.reduceEqDiff, Bool.false_eq_true, List.any_cons, List.any_nil, Bool.or_false, Bool.or_true, Bool.false_or, Bool.true_or, Ty.sub, Int.cast_ofNat_Int, Int.natCast_zero, Int.natCast_one, eq_self, fEuc, abs_nat]
  refine wp_b ?_
  rw [loop_rng (by decide)]
  have e := euc_loop (C := ⟨run T n, T.glo, fun g => match T.fns[g]? with | some fn => fn.np | none => 0, S.length⟩) (S := S) 8000 a.natAbs b.natAbs none 0 100001 hb (by decide) (by decide)
  refine Wp.of e ?_
  exact keepP rfl take_self
def fShare (g : Nat) : Fn := ⟨2, 3, true, [.set (.nm 2) (.call g [.slot 0, .slot 1]), .set (.nm 2) (.ifx (.cmp .gt (.slot 1) (.cst (.int 0))) (.slot 2) (.neg (.slot 2))), .ret (.tup [.bin .fdiv (.slot 0) (.slot 2), .bin .fdiv (.slot 1) (.slot 2)])]⟩
theorem share_ok {f g : Nat} (hf : T.fns[f]? = some (fShare g)) (hg : T.fns[g]? = some fEuc) : RedF T f 2 := by
  intro n lo S a b hb ba bb
  refine Wp.eq (wp_run hf rfl (wp_b ?_))
  simp only [q_slot, q_cst, q_glo, q_tup, q_lst, q_dic, q_bin, q_neg, q_not, q_cmp, q_ifx, q_isi, q_bi, q_call, q_callk, q_idx, q_slc, q_append, q_extend, q_and, q_or, q_nil, q_cons, q_none, q_some, q_and1, q_and2, q_andT, q_andF, q_andB, q_or1, q_or2, q_orB, q_tval, q_tnot, q_tand, q_tor, q_tcmp, q_tand1, q_tand2, q_tor1, q_tor2, q_cnil, q_ccons, q_set, q_par, q_setix, q_ex, q_ret, q_retN, q_iff, q_pass, q_brk, q_cont, q_bnil, q_nextN, q_nextR, q_nextK, q_nextC, q_bok, q_getS, q_getO, q_t0, q_t1, q_t2, q_t3, q_t4, q_l0, q_l1, q_l2, q_l3, q_l4, q_l5, q_l6, q_l8, q_negI, q_notS, q_okB, q_okI, q_nxO, q_nxS, q_mkNon, q_iteT, q_iteF, q_ofB, q_addI, q_subI, q_mulI, q_fdivI, q_modI, q_powI, q_addT, q_eqI, q_neI, q_ltI, q_leI, q_gtI, q_geI, q_eqB, q_neB, q_eqS, q_neS, q_isB, q_isnB, q_isN, q_isnN, q_truB, q_truI, q_isiI, q_isiB, q_isiS, q_isiT, q_isiN, q_lenT, q_gcd, q_abs, q_max, q_min, q_int, q_tupT, q_listT, q_ixT, q_ixL, q_at0, q_at1, q_at2, q_at3, q_at4, q_nm, q_tp, q_asn, q_asc, q_pn, q_pc, wp_bind, wp_ok, List.map_cons, List.map_nil, List.replicate, List.cons_append, List.nil_append, List.append_nil, List.getElem?_cons_zero, List.getElem?_cons_succ, List.set_cons_zero, List.set_cons_succ, List.length_cons, List.length_nil, if_true, if_false, Nat.reduceAdd, Nat.reduceSub, Nat.reduceLT, Nat.reduceLeDiff, Nat.zero_add, Nat.lt_add_one, Nat.zero_lt_succ, decide_true, decide_false, Bool.not_true, Bool.not_false, ne_eq, not_false_eq_true, not_true_eq_false, Int.reduceEq, Int.reduceNe, Int.reduceLT, Int.reduceLE, Int.reduceNeg, Int.reduceToNat, Nat.reducePow, Nat.reduceEqDiff, Bool.false_eq_true, List.any_cons, List.any_nil, Bool.or_false, Bool.or_true, Bool.false_or, Bool.true_or, Ty.sub, Int.cast_ofNat_Int, Int.natCast_zero, Int.natCast_one, eq_self, fShare, euc_ok hg bb]
  refine wp_b ?_
  have hg := gcd_pos (a := a) hb
  have hgb : Bt 8000 (gcdI a b) := by
    have : gcdI a b ∣ b := gcd_dr
    have h2 : (gcdI a b).natAbs ≤ b.natAbs := Nat.le_of_dvd (by omega) (Int.natAbs_dvd_natAbs.mpr this)
    unfold Bt at *
    omega
  have g1 : gcdI a b ≠ 0 := by omega
  have g2 := (divOk g1 hgb (by decide)).2
  have g3 : -gcdI a b ≠ 0 := by omega
  have g4 : (-gcdI a b).natAbs.log2 < 9000 := by rw [Int.natAbs_neg]; exact g2
  by_cases h : 0 < b
  · simp only [q_slot, q_cst, q_glo, q_tup, q_lst, q_dic, q_bin, q_neg, q_not, q_cmp, q_ifx, q_isi, q_bi, q_call, q_callk, q_idx, q_slc, q_append, q_extend, q_and, q_or, q_nil, q_cons, q_none, q_some, q_and1, q_and2, q_andT, q_andF, q_andB, q_or1, q_or2, q_orB, q_tval, q_tnot, q_tand, q_tor, q_tcmp, q_tand1, q_tand2, q_tor1, q_tor2, q_cnil, q_ccons, q_set, q_par, q_setix, q_ex, q_ret, q_retN, q_iff, q_pass, q_brk, q_cont, q_bnil, q_nextN, q_nextR, q_nextK, q_nextC, q_bok, q_getS, q_getO, q_t0, q_t1, q_t2, q_t3, q_t4, q_l0, q_l1, q_l2, q_l3, q_l4, q_l5, q_l6, q_l8, q_negI, q_notS, q_okB, q_okI, q_nxO, q_nxS, q_mkNon, q_iteT, q_iteF, q_ofB, q_addI, q_subI, q_mulI, q_fdivI, q_modI, q_powI, q_addT, q_eqI, q_neI, q_ltI, q_leI, q_gtI, q_geI, q_eqB, q_neB, q_eqS, q_neS, q_isB, q_isnB, q_isN, q_isnN, q_truB, q_truI, q_isiI, q_isiB, q_isiS, q_isiT, q_isiN, q_lenT, q_gcd, q_abs, q_max, q_min, q_int, q_tupT, q_listT, q_ixT, q_ixL, q_at0, q_at1, q_at2, q_at3, q_at4, q_nm, q_tp, q_asn, q_asc, q_pn, q_pc, wp_bind, wp_ok, List.map_cons, List.map_nil, List.replicate, List.cons_append, List.nil_append, List.append_nil, List.getElem?_cons_zero, List.getElem?_cons_succ, List.set_cons_zero, List.set_cons_succ, List.length_cons, List.length_nil, if_true, if_false, Nat.reduceAdd, Nat.reduceSub, Nat.reduceLT, Nat.reduceLeDiff, Nat.zero_add, Nat.lt_add_one, Nat.zero_lt_succ, decide_true, decide_false, Bool.not_true, Bool.not_false, ne_eq, not_false_eq_true, not_true_eq_false, Int.reduceEq, Int.reduceNe, Int.reduceLT, Int.reduceLE, Int.reduceNeg, Int.reduceToNat, Nat.reducePow, Nat.reduceEqDiff, Bool.false_eq_true, List.any_cons, List.any_nil, Bool.or_false, Bool.or_true, Bool.false_or, Bool.true_or, Ty.sub, Int.cast_ofNat_Int, Int.natCast_zero, Int.natCast_one, eq_self, h]
    refine wp_b ?_
    simp only [q_slot, q_cst, q_glo, q_tup, q_lst, q_dic, q_bin, q_neg, q_not, q_cmp, q_ifx, q_isi, q_bi, q_call, q_callk, q_idx, q_slc, q_append, q_extend, q_and, q_or, q_nil, q_cons, q_none, q_some, q_and1, q_and2, q_andT, q_andF, q_andB, q_or1, q_or2, q_orB, q_tval, q_tnot, q_tand, q_tor, q_tcmp, q_tand1, q_tand2, q_tor1, q_tor2, q_cnil, q_ccons, q_set, q_par, q_setix, q_ex, q_ret, q_retN, q_iff, q_pass, q_brk, q_cont, q_bnil, q_nextN, q_nextR, q_nextK, q_nextC, q_bok, q_getS, q_getO, q_t0, q_t1, q_t2, q_t3, q_t4, q_l0, q_l1, q_l2, q_l3, q_l4, q_l5, q_l6, q_l8, q_negI, q_notS, q_okB, q_okI, q_nxO, q_nxS, q_mkNon, q_iteT, q_iteF, q_ofB, q_addI, q_subI, q_mulI, q_fdivI, q_modI, q_powI, q_addT, q_eqI, q_neI, q_ltI, q_leI, q_gtI, q_geI, q_eqB, q_neB, q_eqS, q_neS, q_isB, q_isnB, q_isN, q_isnN, q_truB, q_truI, q_isiI, q_isiB, q_isiS, q_isiT, q_isiN, q_lenT, q_gcd, q_abs, q_max, q_min, q_int, q_tupT, q_listT, q_ixT, q_ixL, q_at0, q_at1, q_at2, q_at3, q_at4, q_nm, q_tp, q_asn, q_asc, q_pn, q_pc, wp_bind, wp_ok, List.map_cons, List.map_nil, List.replicate, List.cons_append, List.nil_append, List.append_nil, List.getElem?_cons_zero, List.getElem?_cons_succ, List.set_cons_zero, List.set_cons_succ, List.length_cons, List.length_nil, if_true, if_false, Nat.reduceAdd, Nat.reduceSub, Nat.reduceLT, Nat.reduceLeDiff, Nat.zero_add, Nat.lt_add_one, Nat.zero_lt_succ, decide_true, decide_false, Bool.not_true, Bool.not_false, ne_eq, not_false_eq_true, not_true_eq_false, Int.reduceEq, Int.reduceNe, Int.reduceLT, Int.reduceLE, Int.reduceNeg, Int.reduceToNat, Nat.reducePow, Nat.reduceEqDiff, Bool.false_eq_true, List.any_cons, List.any_nil, Bool.or_false, Bool.or_true, Bool.false_or, Bool.true_or, Ty.sub, Int.cast_ofNat_Int, Int.natCast_zero, Int.natCast_one, eq_self, g1, g2]
    have : fr (red a b) = .tup [.int (a.fdiv (gcdI a b)), .int (b.fdiv (gcdI a b))] := by unfold fr red; rw [if_neg (by omega)]
    rw [this]
    exact keepP rfl take_self
  · simp only [q_slot, q_cst, q_glo, q_tup, q_lst, q_dic, q_bin, q_neg, q_not, q_cmp, q_ifx, q_isi, q_bi, q_call, q_callk, q_idx, q_slc, q_append, q_extend, q_and, q_or, q_nil, q_cons, q_none, q_some, q_and1, q_and2, q_andT, q_andF, q_andB, q_or1, q_or2, q_orB, q_tval, q_tnot, q_tand, q_tor, q_tcmp, q_tand1, q_tand2, q_tor1, q_tor2, q_cnil, q_ccons, q_set, q_par, q_setix, q_ex, q_ret, q_retN, q_iff, q_pass, q_brk, q_cont, q_bnil, q_nextN, q_nextR, q_nextK, q_nextC, q_bok, q_getS, q_getO, q_t0, q_t1, q_t2, q_t3, q_t4, q_l0, q_l1, q_l2, q_l3, q_l4, q_l5, q_l6, q_l8, q_negI, q_notS, q_okB, q_okI, q_nxO, q_nxS, q_mkNon, q_iteT, q_iteF, q_ofB, q_addI, q_subI, q_mulI, q_fdivI, q_modI, q_powI, q_addT, q_eqI, q_neI, q_ltI, q_leI, q_gtI, q_geI, q_eqB, q_neB, q_eqS, q_neS, q_isB, q_isnB, q_isN, q_isnN, q_truB, q_truI, q_isiI, q_isiB, q_isiS, q_isiT, q_isiN, q_lenT, q_gcd, q_abs, q_max, q_min, q_int, q_tupT, q_listT, q_ixT, q_ixL, q_at0, q_at1, q_at2, q_at3, q_at4, q_nm, q_tp, q_asn, q_asc, q_pn, q_pc, wp_bind, wp_ok, List.map_cons, List.map_nil, List.replicate, List.cons_append, List.nil_append, List.append_nil, List.getElem?_cons_zero, List.getElem?_cons_succ, List.set_cons_zero, List.set_cons_succ, List.length_cons, List.length_nil, if_true, if_false, Nat.reduceAdd, Nat.reduceSub, Nat.reduceLT, Nat.reduceLeDiff, Nat.zero_add, Nat.lt_add_one, Nat.zero_lt_succ, decide_true, decide_false, Bool.not_true, Bool.not_false, ne_eq, not_false_eq_true, not_true_eq_false, Int.reduceEq, Int.reduceNe, Int.reduceLT, Int.reduceLE, Int.reduceNeg, Int.reduceToNat, Nat.reducePow, Nat.reduceEqDiff, Bool.false_eq_true, List.any_cons, List.any_nil, Bool.or_false, Bool.or_true, Bool.false_or, Bool.true_or, Ty.sub, Int.cast_ofNat_Int, Int.natCast_zero, Int.natCast_one, eq_self, h]
    refine wp_b ?_
    simp only [q_slot, q_cst, q_glo, q_tup, q_lst, q_dic, q_bin, q_neg, q_not, q_cmp, q_ifx, q_isi, q_bi, q_call, q_callk, q_idx, q_slc, q_append, q_extend, q_and, q_or, q_nil, q_cons, q_none, q_some, q_and1, q_and2, q_andT, q_andF, q_andB, q_or1, q_or2, q_orB, q_tval, q_tnot, q_tand, q_tor, q_tcmp, q_tand1, q_tand2, q_tor1, q_tor2, q_cnil, q_ccons, q_set, q_par, q_setix, q_ex, q_ret, q_retN, q_iff, q_pass, q_brk, q_cont, q_bnil, q_nextN, q_nextR, q_nextK, q_nextC, q_bok, q_getS, q_getO, q_t0, q_t1, q_t2, q_t3, q_t4, q_l0, q_l1, q_l2, q_l3, q_l4, q_l5, q_l6, q_l8, q_negI, q_notS, q_okB, q_okI, q_nxO, q_nxS, q_mkNon, q_iteT, q_iteF, q_ofB, q_addI, q_subI, q_mulI, q_fdivI, q_modI, q_powI, q_addT, q_eqI, q_neI, q_ltI, q_leI, q_gtI, q_geI, q_eqB, q_neB, q_eqS, q_neS, q_isB, q_isnB, q_isN, q_isnN, q_truB, q_truI, q_isiI, q_isiB, q_isiS, q_isiT, q_isiN, q_lenT, q_gcd, q_abs, q_max, q_min, q_int, q_tupT, q_listT, q_ixT, q_ixL, q_at0, q_at1, q_at2, q_at3, q_at4, q_nm, q_tp, q_asn, q_asc, q_pn, q_pc, wp_bind, wp_ok, List.map_cons, List.map_nil, List.replicate, List.cons_append, List.nil_append, List.append_nil, List.getElem?_cons_zero, List.getElem?_cons_succ, List.set_cons_zero, List.set_cons_succ, List.length_cons, List.length_nil, if_true, if_false, Nat.reduceAdd, Nat.reduceSub, Nat.reduceLT, Nat.reduceLeDiff, Nat.zero_add, Nat.lt_add_one, Nat.zero_lt_succ, decide_true, decide_false, Bool.not_true, Bool.not_false, ne_eq, not_false_eq_true, not_true_eq_false, Int.reduceEq, Int.reduceNe, Int.reduceLT, Int.reduceLE, Int.reduceNeg, Int.reduceToNat, Nat.reducePow, Nat.reduceEqDiff, Bool.false_eq_true, List.any_cons, List.any_nil, Bool.or_false, Bool.or_true, Bool.false_or, Bool.true_or, Ty.sub, Int.cast_ofNat_Int, Int.natCast_zero, Int.natCast_one, eq_self, g3, g4]
    have : fr (red a b) = .tup [.int (a.fdiv (-gcdI a b)), .int (b.fdiv (-gcdI a b))] := by unfold fr red; rw [if_pos (by omega)]
    rw [this]
    exact keepP rfl take_self
def fOver (t g o : Nat) : Fn := ⟨2, 2, true, [.ex (.call t [.slot 0, .slot 1]), .iff (.cmp .eq (.slot 1) (.glo g)) [.never] [], .ret (.call o [.slot 0, .slot 1])]⟩
theorem over_ok {f t g o m : Nat} {d : D} (hf : T.fns[f]? = some (fOver t g o)) (hg : T.glo[g]? = some (fr (0, 1))) {a : D} {y : Int × Int} (hy : y ≠ (0, 1)) (h1 : ∀ lo S, run T (n + m) t lo [a, fr y] S = .ok .non S) (h2 : ∀ lo S, run T (n + m) o lo [a, fr y] S = .ok d S) (hp : pureD d = true) :
    run T (n + m + 1) f lo [a, fr y] S = .ok d S := by
  refine Wp.eq (wp_run hf rfl (wp_b ?_))
  simp only [q_slot, q_cst, q_glo, q_tup, q_lst, q_dic, q_bin, q_neg, q_not, q_cmp, q_ifx, q_isi, q_bi, q_call, q_callk, q_idx, q_slc, q_append, q_extend, q_and, q_or, q_nil, q_cons, q_none, q_some, q_and1, q_and2, q_andT, q_andF, q_andB, q_or1, q_or2, q_orB, q_tval, q_tnot, q_tand, q_tor, q_tcmp, q_tand1, q_tand2, q_tor1, q_tor2, q_cnil, q_ccons, q_set, q_par, q_setix, q_ex, q_ret, q_retN, q_iff, q_pass, q_brk, q_cont, q_bnil, q_nextN, q_nextR, q_nextK, q_nextC, q_bok, q_getS, q_getO, q_t0, q_t1, q_t2, q_t3, q_t4, q_l0, q_l1, q_l2, q_l3, q_l4, q_l5, q_l6, q_l8, q_negI, q_notS, q_okB, q_okI, q_nxO, q_nxS, q_mkNon, q_iteT, q_iteF, q_ofB, q_addI, q_subI, q_mulI, q_fdivI, q_modI, q_powI, q_addT, q_eqI, q_neI, q_ltI, q_leI, q_gtI, q_geI, q_eqB, q_neB, q_eqS, q_neS, q_isB, q_isnB, q_isN, q_isnN, q_truB, q_truI, q_isiI, q_isiB, q_isiS, q_isiT, q_isiN, q_lenT, q_gcd, q_abs, q_max, q_min, q_int, q_tupT, q_listT, q_ixT, q_ixL, q_at0, q_at1, q_at2, q_at3, q_at4, q_nm, q_tp, q_asn, q_asc, q_pn, q_pc, wp_bind, wp_ok, List.map_cons, List.map_nil, List.replicate, List.cons_append, List.nil_append, List.append_nil, List.getElem?_cons_zero, List.getElem?_cons_succ, List.set_cons_zero, List.set_cons_succ, List.length_cons, List.length_nil, if_true, if_false, Nat.reduceAdd, Nat.reduceSub, Nat.reduceLT, Nat.reduceLeDiff, Nat.zero_add, Nat.lt_add_one, Nat.zero_lt_succ, decide_true, decide_false, Bool.not_true, Bool.not_false, ne_eq, not_false_eq_true, not_true_eq_false, Int.reduceEq, Int.reduceNe, Int.reduceLT, Int.reduceLE, Int.reduceNeg, Int.reduceToNat, Nat.reducePow, Nat.reduceEqDiff, Bool.false_eq_true, List.any_cons, List.any_nil, Bool.or_false, Bool.or_true, Bool.false_or, Bool.true_or, Ty.sub, Int.cast_ofNat_Int, Int.natCast_zero, Int.natCast_one, eq_self, fOver, h1]
  refine wp_b ?_
  simp only [q_slot, q_cst, q_glo, q_tup, q_lst, q_dic, q_bin, q_neg, q_not, q_cmp, q_ifx, q_isi, q_bi, q_call, q_callk, q_idx, q_slc, q_append, q_extend, q_and, q_or, q_nil, q_cons, q_none, q_some, q_and1, q_and2, q_andT, q_andF, q_andB, q_or1, q_or2, q_orB, q_tval, q_tnot, q_tand, q_tor, q_tcmp, q_tand1, q_tand2, q_tor1, q_tor2, q_cnil, q_ccons, q_set, q_par, q_setix, q_ex, q_ret, q_retN, q_iff, q_pass, q_brk, q_cont, q_bnil, q_nextN, q_nextR, q_nextK, q_nextC, q_bok, q_getS, q_getO, q_t0, q_t1, q_t2, q_t3, q_t4, q_l0, q_l1, q_l2, q_l3, q_l4, q_l5, q_l6, q_l8, q_negI, q_notS, q_okB, q_okI, q_nxO, q_nxS, q_mkNon, q_iteT, q_iteF, q_ofB, q_addI, q_subI, q_mulI, q_fdivI, q_modI, q_powI, q_addT, q_eqI, q_neI, q_ltI, q_leI, q_gtI, q_geI, q_eqB, q_neB, q_eqS, q_neS, q_isB, q_isnB, q_isN, q_isnN, q_truB, q_truI, q_isiI, q_isiB, q_isiS, q_isiT, q_isiN, q_lenT, q_gcd, q_abs, q_max, q_min, q_int, q_tupT, q_listT, q_ixT, q_ixL, q_at0, q_at1, q_at2, q_at3, q_at4, q_nm, q_tp, q_asn, q_asc, q_pn, q_pc, wp_bind, wp_ok, List.map_cons, List.map_nil, List.replicate, List.cons_append, List.nil_append, List.append_nil, List.getElem?_cons_zero, List.getElem?_cons_succ, List.set_cons_zero, List.set_cons_succ, List.length_cons, List.length_nil, if_true, if_false, Nat.reduceAdd, Nat.reduceSub, Nat.reduceLT, Nat.reduceLeDiff, Nat.zero_add, Nat.lt_add_one, Nat.zero_lt_succ, decide_true, decide_false, Bool.not_true, Bool.not_false, ne_eq, not_false_eq_true, not_true_eq_false, Int.reduceEq, Int.reduceNe, Int.reduceLT, Int.reduceLE, Int.reduceNeg, Int.reduceToNat, Nat.reducePow, Nat.reduceEqDiff, Bool.false_eq_true, List.any_cons, List.any_nil, Bool.or_false, Bool.or_true, Bool.false_or, Bool.true_or, Ty.sub, Int.cast_ofNat_Int, Int.natCast_zero, Int.natCast_one, eq_self, hg, q_eqF, hy]
  refine wp_b ?_
  simp only [q_slot, q_cst, q_glo, q_tup, q_lst, q_dic, q_bin, q_neg, q_not, q_cmp, q_ifx, q_isi, q_bi, q_call, q_callk, q_idx, q_slc, q_append, q_extend, q_and, q_or, q_nil, q_cons, q_none, q_some, q_and1, q_and2, q_andT, q_andF, q_andB, q_or1, q_or2, q_orB, q_tval, q_tnot, q_tand, q_tor, q_tcmp, q_tand1, q_tand2, q_tor1, q_tor2, q_cnil, q_ccons, q_set, q_par, q_setix, q_ex, q_ret, q_retN, q_iff, q_pass, q_brk, q_cont, q_bnil, q_nextN, q_nextR, q_nextK, q_nextC, q_bok, q_getS, q_getO, q_t0, q_t1, q_t2, q_t3, q_t4, q_l0, q_l1, q_l2, q_l3, q_l4, q_l5, q_l6, q_l8, q_negI, q_notS, q_okB, q_okI, q_nxO, q_nxS, q_mkNon, q_iteT, q_iteF, q_ofB, q_addI, q_subI, q_mulI, q_fdivI, q_modI, q_powI, q_addT, q_eqI, q_neI, q_ltI, q_leI, q_gtI, q_geI, q_eqB, q_neB, q_eqS, q_neS, q_isB, q_isnB, q_isN, q_isnN, q_truB, q_truI, q_isiI, q_isiB, q_isiS, q_isiT, q_isiN, q_lenT, q_gcd, q_abs, q_max, q_min, q_int, q_tupT, q_listT, q_ixT, q_ixL, q_at0, q_at1, q_at2, q_at3, q_at4, q_nm, q_tp, q_asn, q_asc, q_pn, q_pc, wp_bind, wp_ok, List.map_cons, List.map_nil, List.replicate, List.cons_append, List.nil_append, List.append_nil, List.getElem?_cons_zero, List.getElem?_cons_succ, List.set_cons_zero, List.set_cons_succ, List.length_cons, List.length_nil, if_true, if_false, Nat.reduceAdd, Nat.reduceSub, Nat.reduceLT, Nat.reduceLeDiff, Nat.zero_add, Nat.lt_add_one, Nat.zero_lt_succ, decide_true, decide_false, Bool.not_true, Bool.not_false, ne_eq, not_false_eq_true, not_true_eq_false, Int.reduceEq, Int.reduceNe, Int.reduceLT, Int.reduceLE, Int.reduceNeg, Int.reduceToNat, Nat.reducePow, Nat.reduceEqDiff, Bool.false_eq_true, List.any_cons, List.any_nil, Bool.or_false, Bool.or_true, Bool.false_or, Bool.true_or, Ty.sub, Int.cast_ofNat_Int, Int.natCast_zero, Int.natCast_one, eq_self, h2]
  exact keepP hp take_self
end
end Pd
namespace Pd
open PySem
section
variable {S S0 : Sto}
theorem items_new {b b' : Bs} {R : Sto} {xs : List D} : items (b'.sto ++ (R ++ [.lst xs])) (.ref (b.sto ++ R).length) = some xs := by
  have e : (b.sto ++ R).length = 5 + R.length := by rw [List.length_append]; rfl
  rw [e]
  show (match (b'.sto ++ (R ++ [SO.lst xs]))[5 + R.length]? with
    | some (.lst xs) => some xs
    | some (.frz xs) => some xs
    | _ => none) = _
  rw [List.getElem?_append_right (show b'.sto.length ≤ 5 + R.length from Nat.le_add_right 5 _), show 5 + R.length - b'.sto.length = R.length from Nat.add_sub_cancel_left 5 _, List.getElem?_append_right (Nat.le_refl _), Nat.sub_self]
  rfl
theorem get_new0 {L : Sto} : (S0 ++ L)[S0.length]? = L[0]? := by rw [List.getElem?_append_right (Nat.le_refl _), Nat.sub_self]
theorem get_new {L : Sto} {k : Nat} : (S0 ++ L)[S0.length + k]? = L[k]? := by rw [List.getElem?_append_right (Nat.le_add_right _ _), Nat.add_sub_cancel_left]
theorem dump_lst {a : Nat} {xs : List D} {ps : List PyData} (h : S[a]? = some (.lst xs)) (g : dumps S 59 xs = some ps) : dump S 60 (.ref a) = some (.list ps) := by
  unfold dump
  rw [h]
  dsimp only
  rw [g]
  rfl
theorem ds_nil {n : Nat} : dumps S n [] = some [] := by unfold dumps; rfl
theorem ds_fr {n : Nat} {x : Int × Int} {r : List D} : dumps S (n + 1) (fr x :: r) = (dumps S (n + 1) r).map (.tuple [.int x.1, .int x.2] :: ·) := by
  conv => lhs; unfold dumps
  rw [dump_fr]
theorem ds_bl {n : Nat} {b : Bool} {r : List D} : dumps S (n + 1) (.bl b :: r) = (dumps S (n + 1) r).map (.bool b :: ·) := by
  conv => lhs; unfold dumps
  rw [dump]
theorem addL {a b : Nat} {x y : List D} (h : S[a]? = some (.lst x)) (g : S[b]? = some (.lst y)) (hl : x.length + y.length ≤ sizeLine) : binop .add (.ref a) (.ref b) S = .ok (.ref S.length) (S ++ [.lst (x ++ y)]) := by
  unfold binop
  dsimp only
  rw [h, g]
  exact if_pos hl
theorem addN {L : Sto} {i j : Nat} {x y : List D} (h : L[i]? = some (.lst x)) (g : L[j]? = some (.lst y)) (hl : x.length + y.length ≤ sizeLine) : binop .add (.ref (S0.length + i)) (.ref (S0.length + j)) (S0 ++ L) = .ok (.ref (S0 ++ L).length) (S0 ++ L ++ [.lst (x ++ y)]) :=
  addL (by rw [get_new]; exact h) (by rw [get_new]; exact g) hl
theorem ixN' {L : Sto} {i : Nat} {xs : List D} {v : Int} {d : D} (h : L[i]? = some (.lst xs)) (g : L2.atI xs v = some d) : index (.ref (S0.length + i)) (.int v) (S0 ++ L) = .ok d (S0 ++ L) := by
  have e : items (S0 ++ L) (.ref (S0.length + i)) = some xs := by
    unfold items
    dsimp only
    rw [get_new, h]
  rw [q_ixL e, g]
  rfl
theorem sh_fr {x : Int × Int} (h : Bf 1900 x) : PyData.showable (.tuple [.int x.1, .int x.2]) = true := by
  have h1 := h.1.log
  have h2 := h.2.log
  simp only [PyData.showable, PyData.showableAll, Bool.and_true, Bool.and_eq_true, decide_eq_true_eq]
  omega
theorem Bf.mono {k l : Nat} {x : Int × Int} (h : Bf k x) (hl : k ≤ l) : Bf l x := ⟨h.1.mono hl, h.2.mono hl⟩
theorem bf_red {k : Nat} {a b : Int} (hb : b ≠ 0) (h : Bt k a) (g : Bt k b) : Bf k (red a b) := ⟨h.red1 hb, g.red2 hb⟩
theorem bf_add {k : Nat} {x y : Int × Int} (h : Fr x) (g : Fr y) (bx : Bf k x) (by' : Bf k y) : Bf (k + k + 1) (addF x y) :=
  bf_red (mul_ne h.ne g.ne) (((bx.1.mul by'.2).add (by'.1.mul bx.2)).mono (by omega)) ((bx.2.mul by'.2).mono (by omega))
theorem bf_sub {k : Nat} {x y : Int × Int} (h : Fr x) (g : Fr y) (bx : Bf k x) (by' : Bf k y) : Bf (k + k + 1) (subF x y) :=
  bf_red (mul_ne h.ne g.ne) (((bx.1.mul by'.2).sub (by'.1.mul bx.2)).mono (by omega)) ((bx.2.mul by'.2).mono (by omega))
theorem bf_mul {k : Nat} {x y : Int × Int} (h : Fr x) (g : Fr y) (bx : Bf k x) (by' : Bf k y) : Bf (k + k + 1) (mulF x y) :=
  bf_red (mul_ne h.ne g.ne) ((bx.1.mul by'.1).mono (by omega)) ((bx.2.mul by'.2).mono (by omega))
theorem bf_div {k : Nat} {x y : Int × Int} (h : Fr x) (g : y.1 ≠ 0) (bx : Bf k x) (by' : Bf k y) : Bf (k + k + 1) (divF x y) :=
  bf_red (mul_ne h.ne g) ((bx.1.mul by'.2).mono (by omega)) ((bx.2.mul by'.1).mono (by omega))
end
theorem items_get {S : Sto} {a : Nat} {xs : List D} (h : S[a]? = some (.lst xs)) : items S (.ref a) = some xs := by
  unfold items
  dsimp only
  rw [h]
theorem like2 {T : Tab} {n lo i j fl : Nat} (hLike : T.fns[fl]? = some fLike) {S : Sto} {xs : List D} {ps : List PyData} (hi : S[i]? = some (.lst xs)) (hj : S[j]? = some (.lst xs)) (hd : ∀ S, dumps S 59 xs = some ps) (hs : PyData.showableAll ps = true) (hb : bares ps = true) (hc : costs ps ≤ 16000000) :
    Pd.run T (n + 1) fl lo [.ref i, .ref j] S = .ok (.bl true) S := by
  refine like_ok hLike (dump_lst hi (hd _)) (dump_lst hj (hd _)) ?_ ?_ ?_
  · unfold PyData.showable; exact hs
  · unfold bare; exact hb
  · unfold cost; omega
theorem shA_nil : PyData.showableAll [] = true := by unfold PyData.showableAll; rfl
theorem shA_fr {x : Int × Int} {r : List PyData} (h : Bf 1900 x) (g : PyData.showableAll r = true) : PyData.showableAll (.tuple [.int x.1, .int x.2] :: r) = true := by
  unfold PyData.showableAll
  rw [sh_fr h, g]
  rfl
theorem shA_bl {b : Bool} {r : List PyData} (g : PyData.showableAll r = true) : PyData.showableAll (.bool b :: r) = true := by
  unfold PyData.showableAll
  rw [g]
  unfold PyData.showable
  rfl
theorem rng_inv {lo : Int} {m : Nat} {f : D → Pd.Env → Sto → Out Fl} (I : Nat → Pd.Env → Sto → Prop) (step : ∀ i σ S, i < m → I i σ S → Wp (f (.int (lo + (i : Int))) σ S) fun fl S' => ∃ σ', fl = .nx σ' ∧ I (i + 1) σ' S') :
    ∀ (k i : Nat) (σ : Pd.Env) (S : Sto), i + k = m → I i σ S → Wp (forL (.rng lo m) f (k + 1) i σ S) fun fl S' => ∃ σ', fl = .nx σ' ∧ I m σ' S'
  | 0, i, σ, S, h, h0 => by
    have hi : i = m := by omega
    subst hi
    refine Wp.of (a := .nx σ) (S := S) ?_ ⟨σ, rfl, h0⟩
    unfold forL
    have : Src.item S (.rng lo i) i = some none := by unfold Src.item; rw [if_neg (by omega)]
    rw [this]
  | k + 1, i, σ, S, h, h0 => by
    have e : forL (.rng lo m) f (k + 2) i σ S = (f (.int (lo + (i : Int))) σ S).bind fun fl S => match fl with
      | .nx σ => forL (.rng lo m) f (k + 1) (i + 1) σ S
      | .ct σ => forL (.rng lo m) f (k + 1) (i + 1) σ S
      | .bk σ => .ok (.nx σ) S
      | .rt d => .ok (.rt d) S := by
      conv => lhs; unfold forL
      have : Src.item S (.rng lo m) i = some (some (.int (lo + (i : Int)))) := by unfold Src.item; rw [if_pos (by omega)]
      rw [this]
      try rfl
    rw [e, wp_bind]
    refine (step i σ S (by omega) h0).imp fun fl S' ⟨σ', e1, h1⟩ => ?_
    subst e1
    exact rng_inv I step k (i + 1) σ' S' (by omega) h1
theorem callk_eval {C : Cx} {σ : Pd.Env} {S S1 S2 : Sto} {f : Nat} {es ws : List IE} {ks : List Nat} {ds us xs : List D} (h1 : evs C es σ S = .ok ds S1) (h2 : evs C ws σ S1 = .ok us S2) (h3 : fill ds ks us (C.np f) 0 = some xs) : evE C (.callk f es ks ws) σ S = C.cal f C.lo xs S2 := by
  rw [q_callk, h1]
  show Out.bind (evs C ws σ S1) _ = _
  rw [h2]
  show (match fill ds ks us (C.np f) 0 with
    | some xs => C.cal f C.lo xs S2
    | none => Out.bad) = _
  rw [h3]
end Pd
/-! Fractions as rational numbers. -/
namespace Pd
open PySem
def val (x : Int × Int) : Rat := Rat.divInt x.1 x.2
theorem val_red {a b : Int} (hb : b ≠ 0) : val (red a b) = Rat.divInt a b := by
  obtain ⟨c, c0, ea, eb, hf⟩ := red_spec (a := a) hb
  unfold val
  rw [Rat.divInt_eq_divInt_iff hf.ne hb]
  have h1 : (red a b).1 * b = (red a b).1 * (c * (red a b).2) := by rw [← eb]
  have h2 : a * (red a b).2 = (c * (red a b).1) * (red a b).2 := by rw [← ea]
  rw [h1, h2]
  grind
theorem val_add {x y : Int × Int} (h : x.2 ≠ 0) (g : y.2 ≠ 0) : val (addF x y) = val x + val y := by
  unfold addF
  rw [val_red (mul_ne h g)]
  unfold val
  rw [Rat.divInt_add_divInt _ _ h g]
theorem neg_div {a b : Int} : -(Rat.divInt a b) = Rat.divInt (-a) b := Rat.neg_divInt a b
theorem val_sub {x y : Int × Int} (h : x.2 ≠ 0) (g : y.2 ≠ 0) : val (subF x y) = val x - val y := by
  unfold subF
  rw [val_red (mul_ne h g)]
  unfold val
  rw [Rat.sub_eq_add_neg, neg_div, Rat.divInt_add_divInt _ _ h g]
  congr 1
  grind
theorem val_mul {x y : Int × Int} (h : x.2 ≠ 0) (g : y.2 ≠ 0) : val (mulF x y) = val x * val y := by
  unfold mulF
  rw [val_red (mul_ne h g)]
  unfold val
  rw [Rat.divInt_mul_divInt]
theorem val_inj {x y : Int × Int} (h : Fr x) (g : Fr y) (e : val x = val y) : x = y := by
  unfold val at e
  rw [Rat.divInt_eq_divInt_iff h.ne g.ne] at e
  exact frac_uniq (p := x.1) (q := x.2) (p' := y.1) (q' := y.2) h g e
theorem val_zero {x : Int × Int} (h : Fr x) (e : val x = 0) : x = (0, 1) := by
  refine val_inj h ⟨by decide, by decide +kernel⟩ ?_
  rw [e]
  rfl
theorem val_inv {a : Int} (h : a ≠ 0) : val (1, a) * val (a, 1) = 1 := by
  unfold val
  rw [Rat.divInt_mul_divInt]
  have : (1 : Rat) = Rat.divInt 1 1 := rfl
  rw [this, Rat.divInt_eq_divInt_iff (by dsimp only; omega) (by decide)]
  dsimp only
  grind
end Pd
/-! Points: pairs of fractions. -/
namespace Pd
open PySem
abbrev Pt := (Int × Int) × (Int × Int)
def pt (p : Pt) : D := .tup [fr p.1, fr p.2]
def PF (p : Pt) : Prop := Fr p.1 ∧ Fr p.2
def PB (k : Nat) (p : Pt) : Prop := Bf k p.1 ∧ Bf k p.2
theorem pt0 {S : Sto} {p : Pt} : index (pt p) (.int 0) S = .ok (fr p.1) S := by unfold pt; rw [q_ixT, q_at0]; rfl
theorem pt1 {S : Sto} {p : Pt} : index (pt p) (.int 1) S = .ok (fr p.2) S := by unfold pt; rw [q_ixT, q_at1]; rfl
theorem fr0 {S : Sto} {x : Int × Int} : index (fr x) (.int 0) S = .ok (.int x.1) S := by unfold fr; rw [q_ixT, q_at0]; rfl
theorem fr1 {S : Sto} {x : Int × Int} : index (fr x) (.int 1) S = .ok (.int x.2) S := by unfold fr; rw [q_ixT, q_at1]; rfl
theorem isi_pt {S : Sto} {p : Pt} : isiD (pt p) [.tuple] S = some true := rfl
theorem len_pt {S : Sto} {p : Pt} : bifn .len [pt p] S = .ok (.int 2) S := rfl
def mapP (f : (Int × Int) → (Int × Int) → (Int × Int)) (p q : Pt) : Pt := (f p.1 q.1, f p.2 q.2)
def mapS (f : (Int × Int) → (Int × Int) → (Int × Int)) (p : Pt) (x : Int × Int) : Pt := (f p.1 x, f p.2 x)
theorem pt_eq {x y : Int × Int} : D.tup [fr x, fr y] = pt (x, y) := rfl
def fIsPt (f : Nat) : Fn := ⟨1, 1, true, [.iff (.or [.not (.val (.isi (.slot 0) [.tuple])), .cmp .ne (.bi .len [.slot 0]) (.cst (.int 2))]) [.ret (.cst (.bl false))] [], .ret (.and [.call f [.idx (.slot 0) (.cst (.int 0))], .call f [.idx (.slot 0) (.cst (.int 1))]])]⟩
def fPair (o : Nat) : Fn := ⟨2, 2, true, [.ret (.tup [.call o [.idx (.slot 0) (.cst (.int 0)), .idx (.slot 1) (.cst (.int 0))], .call o [.idx (.slot 0) (.cst (.int 1)), .idx (.slot 1) (.cst (.int 1))]])]⟩
def fScl (o : Nat) : Fn := ⟨2, 2, true, [.ret (.tup [.call o [.idx (.slot 0) (.cst (.int 0)), .slot 1], .call o [.idx (.slot 0) (.cst (.int 1)), .slot 1]])]⟩
def fInner (a m : Nat) : Fn := ⟨2, 2, true, [.ret (.call a [.call m [.idx (.slot 0) (.cst (.int 0)), .idx (.slot 1) (.cst (.int 0))], .call m [.idx (.slot 0) (.cst (.int 1)), .idx (.slot 1) (.cst (.int 1))]])]⟩
def fGap (l i : Nat) : Fn := ⟨2, 3, true, [.set (.nm 2) (.call l [.slot 0, .slot 1]), .ret (.call i [.slot 2, .slot 2])]⟩
section
variable {T : Tab} {n lo : Nat} {S : Sto}
/-- a def of two fractions -/
def OpF (T : Tab) (o m k : Nat) (f : (Int × Int) → (Int × Int) → (Int × Int)) : Prop := ∀ (n lo : Nat) (S : Sto) (x y : Int × Int), Fr x → Fr y → Bf k x → Bf k y → run T (n + m) o lo [fr x, fr y] S = .ok (fr (f x y)) S
theorem opF_add {f r m : Nat} (hf : T.fns[f]? = some (fAdd r)) (hr : RedF T r m) : OpF T f (m + 1) 3000 addF := fun n lo S x y h g bx by' => add_ok (n := n) hf hr h.ne g.ne bx by'
theorem opF_sub {f r m : Nat} (hf : T.fns[f]? = some (fSub r)) (hr : RedF T r m) : OpF T f (m + 1) 3000 subF := fun n lo S x y h g bx by' => sub_ok (n := n) hf hr h.ne g.ne bx by'
theorem opF_mul {f r m : Nat} (hf : T.fns[f]? = some (fMul r)) (hr : RedF T r m) : OpF T f (m + 1) 3000 mulF := fun n lo S x y h g bx by' => mul_ok (n := n) hf hr h.ne g.ne bx by'
theorem isFr1_ok {f ii : Nat} (hf : T.fns[f]? = some (fIsFr ii)) (hi : T.fns[ii]? = some fIsInt) {x : Int × Int} (h : Fr x) (m : Nat) : run T (n + m + 2) f lo [fr x] S = .ok (.bl true) S := isFr_ok (n := n + m) hf hi h
theorem isPt_ok {g f ii : Nat} (hg : T.fns[g]? = some (fIsPt f)) (hf : T.fns[f]? = some (fIsFr ii)) (hi : T.fns[ii]? = some fIsInt) {p : Pt} (h : PF p) : run T (n + 3) g lo [pt p] S = .ok (.bl true) S := by
  refine Wp.eq (wp_run hg rfl (wp_b ?_))
  simp only [q_slot, q_cst, q_glo, q_tup, q_lst, q_dic, q_bin, q_neg, q_not, q_cmp, q_ifx, q_isi, q_bi, q_call, q_idx, q_slc, q_append, q_extend, q_and, q_or, q_nil, q_cons, q_none, q_some, q_and1, q_and2, q_andT, q_andF, q_andB, q_or1, q_or2, q_orB, q_tval, q_tnot, q_tand, q_tor, q_tcmp, q_tand1, q_tand2, q_tor1, q_tor2, q_cnil, q_ccons, q_set, q_par, q_setix, q_ex, q_ret, q_retN, q_iff, q_pass, q_brk, q_cont, q_bnil, q_nextN, q_nextR, q_nextK, q_nextC, q_bok, q_getS, q_getO, q_t0, q_t1, q_t2, q_t3, q_t4, q_l0, q_l1, q_l2, q_l3, q_l4, q_l5, q_l6, q_l8, q_negI, q_notS, q_okB, q_okI, q_nxO, q_nxS, q_mkNon, q_iteT, q_iteF, q_ofB, q_addI, q_subI, q_mulI, q_fdivI, q_modI, q_powI, q_addT, q_eqI, q_neI, q_ltI, q_leI, q_gtI, q_geI, q_eqB, q_neB, q_eqS, q_neS, q_isB, q_isnB, q_isN, q_isnN, q_truB, q_truI, q_isiI, q_isiB, q_isiS, q_isiT, q_isiN, q_lenT, q_gcd, q_abs, q_max, q_min, q_int, q_tupT, q_listT, q_ixT, q_ixL, q_at0, q_at1, q_at2, q_at3, q_at4, q_nm, q_tp, q_asn, q_asc, q_pn, q_pc, wp_bind, wp_ok, List.map_cons, List.map_nil, List.replicate, List.cons_append, List.nil_append, List.append_nil, List.getElem?_cons_zero, List.getElem?_cons_succ, List.set_cons_zero, List.set_cons_succ, List.length_cons, List.length_nil, if_true, if_false, Nat.reduceAdd, Nat.reduceSub, Nat.reduceLT, Nat.reduceLeDiff, Nat.zero_add, Nat.lt_add_one, Nat.zero_lt_succ, decide_true, decide_false, Bool.not_true, Bool.not_false, ne_eq, not_false_eq_true, not_true_eq_false, Int.reduceEq, Int.reduceNe, Int.reduceLT, Int.reduceLE, Int.reduceNeg, Int.reduceToNat, Nat.reducePow, Nat.reduceEqDiff, Bool.false_eq_true, Bool.true_eq_false, List.any_cons, List.any_nil, Bool.or_false, Bool.or_true, Bool.false_or, Bool.true_or, Ty.sub, Int.cast_ofNat_Int, Int.natCast_zero, Int.natCast_one, eq_self, fIsPt, isi_pt, len_pt]
  refine wp_b ?_
  simp only [q_slot, q_cst, q_glo, q_tup, q_lst, q_dic, q_bin, q_neg, q_not, q_cmp, q_ifx, q_isi, q_bi, q_call, q_idx, q_slc, q_append, q_extend, q_and, q_or, q_nil, q_cons, q_none, q_some, q_and1, q_and2, q_andT, q_andF, q_andB, q_or1, q_or2, q_orB, q_tval, q_tnot, q_tand, q_tor, q_tcmp, q_tand1, q_tand2, q_tor1, q_tor2, q_cnil, q_ccons, q_set, q_par, q_setix, q_ex, q_ret, q_retN, q_iff, q_pass, q_brk, q_cont, q_bnil, q_nextN, q_nextR, q_nextK, q_nextC, q_bok, q_getS, q_getO, q_t0, q_t1, q_t2, q_t3, q_t4, q_l0, q_l1, q_l2, q_l3, q_l4, q_l5, q_l6, q_l8, q_negI, q_notS, q_okB, q_okI, q_nxO, q_nxS, q_mkNon, q_iteT, q_iteF, q_ofB, q_addI, q_subI, q_mulI, q_fdivI, q_modI, q_powI, q_addT, q_eqI, q_neI, q_ltI, q_leI, q_gtI, q_geI, q_eqB, q_neB, q_eqS, q_neS, q_isB, q_isnB, q_isN, q_isnN, q_truB, q_truI, q_isiI, q_isiB, q_isiS, q_isiT, q_isiN, q_lenT, q_gcd, q_abs, q_max, q_min, q_int, q_tupT, q_listT, q_ixT, q_ixL, q_at0, q_at1, q_at2, q_at3, q_at4, q_nm, q_tp, q_asn, q_asc, q_pn, q_pc, wp_bind, wp_ok, List.map_cons, List.map_nil, List.replicate, List.cons_append, List.nil_append, List.append_nil, List.getElem?_cons_zero, List.getElem?_cons_succ, List.set_cons_zero, List.set_cons_succ, List.length_cons, List.length_nil, if_true, if_false, Nat.reduceAdd, Nat.reduceSub, Nat.reduceLT, Nat.reduceLeDiff, Nat.zero_add, Nat.lt_add_one, Nat.zero_lt_succ, decide_true, decide_false, Bool.not_true, Bool.not_false, ne_eq, not_false_eq_true, not_true_eq_false, Int.reduceEq, Int.reduceNe, Int.reduceLT, Int.reduceLE, Int.reduceNeg, Int.reduceToNat, Nat.reducePow, Nat.reduceEqDiff, Bool.false_eq_true, Bool.true_eq_false, List.any_cons, List.any_nil, Bool.or_false, Bool.or_true, Bool.false_or, Bool.true_or, Ty.sub, Int.cast_ofNat_Int, Int.natCast_zero, Int.natCast_one, eq_self, pt0, pt1, isFr_ok hf hi h.1, isFr_ok hf hi h.2]
  exact keepP rfl take_self
def ChkP (T : Tab) (c m : Nat) : Prop := ∀ (n lo : Nat) (S : Sto) (p : Pt), PF p → run T (n + m) c lo [pt p] S = .ok (pt p) S
theorem chkP_ok {c g f ii : Nat} (hc : T.fns[c]? = some (fChk g)) (hg : T.fns[g]? = some (fIsPt f)) (hf : T.fns[f]? = some (fIsFr ii)) (hi : T.fns[ii]? = some fIsInt) : ChkP T c 4 := by
  intro n lo S p h
  refine Wp.eq (wp_run hc rfl (wp_b ?_))
  simp only [q_slot, q_cst, q_glo, q_tup, q_lst, q_dic, q_bin, q_neg, q_not, q_cmp, q_ifx, q_isi, q_bi, q_call, q_idx, q_slc, q_append, q_extend, q_and, q_or, q_nil, q_cons, q_none, q_some, q_and1, q_and2, q_andT, q_andF, q_andB, q_or1, q_or2, q_orB, q_tval, q_tnot, q_tand, q_tor, q_tcmp, q_tand1, q_tand2, q_tor1, q_tor2, q_cnil, q_ccons, q_set, q_par, q_setix, q_ex, q_ret, q_retN, q_iff, q_pass, q_brk, q_cont, q_bnil, q_nextN, q_nextR, q_nextK, q_nextC, q_bok, q_getS, q_getO, q_t0, q_t1, q_t2, q_t3, q_t4, q_l0, q_l1, q_l2, q_l3, q_l4, q_l5, q_l6, q_l8, q_negI, q_notS, q_okB, q_okI, q_nxO, q_nxS, q_mkNon, q_iteT, q_iteF, q_ofB, q_addI, q_subI, q_mulI, q_fdivI, q_modI, q_powI, q_addT, q_eqI, q_neI, q_ltI, q_leI, q_gtI, q_geI, q_eqB, q_neB, q_eqS, q_neS, q_isB, q_isnB, q_isN, q_isnN, q_truB, q_truI, q_isiI, q_isiB, q_isiS, q_isiT, q_isiN, q_lenT, q_gcd, q_abs, q_max, q_min, q_int, q_tupT, q_listT, q_ixT, q_ixL, q_at0, q_at1, q_at2, q_at3, q_at4, q_nm, q_tp, q_asn, q_asc, q_pn, q_pc, wp_bind, wp_ok, List.map_cons, List.map_nil, List.replicate, List.cons_append, List.nil_append, List.append_nil, List.getElem?_cons_zero, List.getElem?_cons_succ, List.set_cons_zero, List.set_cons_succ, List.length_cons, List.length_nil, if_true, if_false, Nat.reduceAdd, Nat.reduceSub, Nat.reduceLT, Nat.reduceLeDiff, Nat.zero_add, Nat.lt_add_one, Nat.zero_lt_succ, decide_true, decide_false, Bool.not_true, Bool.not_false, ne_eq, not_false_eq_true, not_true_eq_false, Int.reduceEq, Int.reduceNe, Int.reduceLT, Int.reduceLE, Int.reduceNeg, Int.reduceToNat, Nat.reducePow, Nat.reduceEqDiff, Bool.false_eq_true, Bool.true_eq_false, List.any_cons, List.any_nil, Bool.or_false, Bool.or_true, Bool.false_or, Bool.true_or, Ty.sub, Int.cast_ofNat_Int, Int.natCast_zero, Int.natCast_one, eq_self, fChk, isPt_ok hg hf hi h]
  refine wp_b ?_
  simp only [q_slot, q_cst, q_glo, q_tup, q_lst, q_dic, q_bin, q_neg, q_not, q_cmp, q_ifx, q_isi, q_bi, q_call, q_idx, q_slc, q_append, q_extend, q_and, q_or, q_nil, q_cons, q_none, q_some, q_and1, q_and2, q_andT, q_andF, q_andB, q_or1, q_or2, q_orB, q_tval, q_tnot, q_tand, q_tor, q_tcmp, q_tand1, q_tand2, q_tor1, q_tor2, q_cnil, q_ccons, q_set, q_par, q_setix, q_ex, q_ret, q_retN, q_iff, q_pass, q_brk, q_cont, q_bnil, q_nextN, q_nextR, q_nextK, q_nextC, q_bok, q_getS, q_getO, q_t0, q_t1, q_t2, q_t3, q_t4, q_l0, q_l1, q_l2, q_l3, q_l4, q_l5, q_l6, q_l8, q_negI, q_notS, q_okB, q_okI, q_nxO, q_nxS, q_mkNon, q_iteT, q_iteF, q_ofB, q_addI, q_subI, q_mulI, q_fdivI, q_modI, q_powI, q_addT, q_eqI, q_neI, q_ltI, q_leI, q_gtI, q_geI, q_eqB, q_neB, q_eqS, q_neS, q_isB, q_isnB, q_isN, q_isnN, q_truB, q_truI, q_isiI, q_isiB, q_isiS, q_isiT, q_isiN, q_lenT, q_gcd, q_abs, q_max, q_min, q_int, q_tupT, q_listT, q_ixT, q_ixL, q_at0, q_at1, q_at2, q_at3, q_at4, q_nm, q_tp, q_asn, q_asc, q_pn, q_pc, wp_bind, wp_ok, List.map_cons, List.map_nil, List.replicate, List.cons_append, List.nil_append, List.append_nil, List.getElem?_cons_zero, List.getElem?_cons_succ, List.set_cons_zero, List.set_cons_succ, List.length_cons, List.length_nil, if_true, if_false, Nat.reduceAdd, Nat.reduceSub, Nat.reduceLT, Nat.reduceLeDiff, Nat.zero_add, Nat.lt_add_one, Nat.zero_lt_succ, decide_true, decide_false, Bool.not_true, Bool.not_false, ne_eq, not_false_eq_true, not_true_eq_false, Int.reduceEq, Int.reduceNe, Int.reduceLT, Int.reduceLE, Int.reduceNeg, Int.reduceToNat, Nat.reducePow, Nat.reduceEqDiff, Bool.false_eq_true, Bool.true_eq_false, List.any_cons, List.any_nil, Bool.or_false, Bool.or_true, Bool.false_or, Bool.true_or, Ty.sub, Int.cast_ofNat_Int, Int.natCast_zero, Int.natCast_one, eq_self]
  exact keepP rfl take_self
theorem pair_ok {g o m k : Nat} {f : (Int × Int) → (Int × Int) → (Int × Int)} (hg : T.fns[g]? = some (fPair o)) (ho : OpF T o m k f) {p q : Pt} (hp : PF p) (hq : PF q) (bp : PB k p) (bq : PB k q) : run T (n + m + 1) g lo [pt p, pt q] S = .ok (pt (mapP f p q)) S := by
  refine Wp.eq (wp_run hg rfl (wp_b ?_))
  simp only [q_slot, q_cst, q_glo, q_tup, q_lst, q_dic, q_bin, q_neg, q_not, q_cmp, q_ifx, q_isi, q_bi, q_call, q_idx, q_slc, q_append, q_extend, q_and, q_or, q_nil, q_cons, q_none, q_some, q_and1, q_and2, q_andT, q_andF, q_andB, q_or1, q_or2, q_orB, q_tval, q_tnot, q_tand, q_tor, q_tcmp, q_tand1, q_tand2, q_tor1, q_tor2, q_cnil, q_ccons, q_set, q_par, q_setix, q_ex, q_ret, q_retN, q_iff, q_pass, q_brk, q_cont, q_bnil, q_nextN, q_nextR, q_nextK, q_nextC, q_bok, q_getS, q_getO, q_t0, q_t1, q_t2, q_t3, q_t4, q_l0, q_l1, q_l2, q_l3, q_l4, q_l5, q_l6, q_l8, q_negI, q_notS, q_okB, q_okI, q_nxO, q_nxS, q_mkNon, q_iteT, q_iteF, q_ofB, q_addI, q_subI, q_mulI, q_fdivI, q_modI, q_powI, q_addT, q_eqI, q_neI, q_ltI, q_leI, q_gtI, q_geI, q_eqB, q_neB, q_eqS, q_neS, q_isB, q_isnB, q_isN, q_isnN, q_truB, q_truI, q_isiI, q_isiB, q_isiS, q_isiT, q_isiN, q_lenT, q_gcd, q_abs, q_max, q_min, q_int, q_tupT, q_listT, q_ixT, q_ixL, q_at0, q_at1, q_at2, q_at3, q_at4, q_nm, q_tp, q_asn, q_asc, q_pn, q_pc, wp_bind, wp_ok, List.map_cons, List.map_nil, List.replicate, List.cons_append, List.nil_append, List.append_nil, List.getElem?_cons_zero, List.getElem?_cons_succ, List.set_cons_zero, List.set_cons_succ, List.length_cons, List.length_nil, if_true, if_false, Nat.reduceAdd, Nat.reduceSub, Nat.reduceLT, Nat.reduceLeDiff, Nat.zero_add, Nat.lt_add_one, Nat.zero_lt_succ, decide_true, decide_false, Bool.not_true, Bool.not_false, ne_eq, not_false_eq_true, not_true_eq_false, Int.reduceEq, Int.reduceNe, Int.reduceLT, Int.reduceLE, Int.reduceNeg, Int.reduceToNat, Nat.reducePow, Nat.reduceEqDiff, Bool.false_eq_true, Bool.true_eq_false, List.any_cons, List.any_nil, Bool.or_false, Bool.or_true, Bool.false_or, Bool.true_or, Ty.sub, Int.cast_ofNat_Int, Int.natCast_zero, Int.natCast_one, eq_self, fPair, pt0, pt1, ho n _ S p.1 q.1 hp.1 hq.1 bp.1 bq.1, ho n _ S p.2 q.2 hp.2 hq.2 bp.2 bq.2]
  exact keepP rfl take_self
theorem scl_ok {g o m k : Nat} {f : (Int × Int) → (Int × Int) → (Int × Int)} (hg : T.fns[g]? = some (fScl o)) (ho : OpF T o m k f) {p : Pt} {x : Int × Int} (hp : PF p) (hx : Fr x) (bp : PB k p) (bx : Bf k x) : run T (n + m + 1) g lo [pt p, fr x] S = .ok (pt (mapS f p x)) S := by
  refine Wp.eq (wp_run hg rfl (wp_b ?_))
  simp only [q_slot, q_cst, q_glo, q_tup, q_lst, q_dic, q_bin, q_neg, q_not, q_cmp, q_ifx, q_isi, q_bi, q_call, q_idx, q_slc, q_append, q_extend, q_and, q_or, q_nil, q_cons, q_none, q_some, q_and1, q_and2, q_andT, q_andF, q_andB, q_or1, q_or2, q_orB, q_tval, q_tnot, q_tand, q_tor, q_tcmp, q_tand1, q_tand2, q_tor1, q_tor2, q_cnil, q_ccons, q_set, q_par, q_setix, q_ex, q_ret, q_retN, q_iff, q_pass, q_brk, q_cont, q_bnil, q_nextN, q_nextR, q_nextK, q_nextC, q_bok, q_getS, q_getO, q_t0, q_t1, q_t2, q_t3, q_t4, q_l0, q_l1, q_l2, q_l3, q_l4, q_l5, q_l6, q_l8, q_negI, q_notS, q_okB, q_okI, q_nxO, q_nxS, q_mkNon, q_iteT, q_iteF, q_ofB, q_addI, q_subI, q_mulI, q_fdivI, q_modI, q_powI, q_addT, q_eqI, q_neI, q_ltI, q_leI, q_gtI, q_geI, q_eqB, q_neB, q_eqS, q_neS, q_isB, q_isnB, q_isN, q_isnN, q_truB, q_truI, q_isiI, q_isiB, q_isiS, q_isiT, q_isiN, q_lenT, q_gcd, q_abs, q_max, q_min, q_int, q_tupT, q_listT, q_ixT, q_ixL, q_at0, q_at1, q_at2, q_at3, q_at4, q_nm, q_tp, q_asn, q_asc, q_pn, q_pc, wp_bind, wp_ok, List.map_cons, List.map_nil, List.replicate, List.cons_append, List.nil_append, List.append_nil, List.getElem?_cons_zero, List.getElem?_cons_succ, List.set_cons_zero, List.set_cons_succ, List.length_cons, List.length_nil, if_true, if_false, Nat.reduceAdd, Nat.reduceSub, Nat.reduceLT, Nat.reduceLeDiff, Nat.zero_add, Nat.lt_add_one, Nat.zero_lt_succ, decide_true, decide_false, Bool.not_true, Bool.not_false, ne_eq, not_false_eq_true, not_true_eq_false, Int.reduceEq, Int.reduceNe, Int.reduceLT, Int.reduceLE, Int.reduceNeg, Int.reduceToNat, Nat.reducePow, Nat.reduceEqDiff, Bool.false_eq_true, Bool.true_eq_false, List.any_cons, List.any_nil, Bool.or_false, Bool.or_true, Bool.false_or, Bool.true_or, Ty.sub, Int.cast_ofNat_Int, Int.natCast_zero, Int.natCast_one, eq_self, fScl, pt0, pt1, ho n _ S p.1 x hp.1 hx bp.1 bx, ho n _ S p.2 x hp.2 hx bp.2 bx]
  exact keepP rfl take_self
/-- the sum of the products -/
def dotF (p q : Pt) : Int × Int := addF (mulF p.1 q.1) (mulF p.2 q.2)
theorem inner_ok {g a m d : Nat} (hg : T.fns[g]? = some (fInner a m)) (ha : OpF T a d 3000 addF) (hm : OpF T m d 3000 mulF) {p q : Pt} (hp : PF p) (hq : PF q) (bp : PB 1000 p) (bq : PB 1000 q) : run T (n + d + 1) g lo [pt p, pt q] S = .ok (fr (dotF p q)) S := by
  refine Wp.eq (wp_run hg rfl (wp_b ?_))
  have b1 := bf_red (mul_ne hp.1.ne hq.1.ne) ((bp.1.1.mul bq.1.1).mono (show 1000 + 1000 ≤ 3000 by decide)) ((bp.1.2.mul bq.1.2).mono (by decide))
  have b2 := bf_red (mul_ne hp.2.ne hq.2.ne) ((bp.2.1.mul bq.2.1).mono (show 1000 + 1000 ≤ 3000 by decide)) ((bp.2.2.mul bq.2.2).mono (by decide))
  simp only [q_slot, q_cst, q_glo, q_tup, q_lst, q_dic, q_bin, q_neg, q_not, q_cmp, q_ifx, q_isi, q_bi, q_call, q_idx, q_slc, q_append, q_extend, q_and, q_or, q_nil, q_cons, q_none, q_some, q_and1, q_and2, q_andT, q_andF, q_andB, q_or1, q_or2, q_orB, q_tval, q_tnot, q_tand, q_tor, q_tcmp, q_tand1, q_tand2, q_tor1, q_tor2, q_cnil, q_ccons, q_set, q_par, q_setix, q_ex, q_ret, q_retN, q_iff, q_pass, q_brk, q_cont, q_bnil, q_nextN, q_nextR, q_nextK, q_nextC, q_bok, q_getS, q_getO, q_t0, q_t1, q_t2, q_t3, q_t4, q_l0, q_l1, q_l2, q_l3, q_l4, q_l5, q_l6, q_l8, q_negI, q_notS, q_okB, q_okI, q_nxO, q_nxS, q_mkNon, q_iteT, q_iteF, q_ofB, q_addI, q_subI, q_mulI, q_fdivI, q_modI, q_powI, q_addT, q_eqI, q_neI, q_ltI, q_leI, q_gtI, q_geI, q_eqB, q_neB, q_eqS, q_neS, q_isB, q_isnB, q_isN, q_isnN, q_truB, q_truI, q_isiI, q_isiB, q_isiS, q_isiT, q_isiN, q_lenT, q_gcd, q_abs, q_max, q_min, q_int, q_tupT, q_listT, q_ixT, q_ixL, q_at0, q_at1, q_at2, q_at3, q_at4, q_nm, q_tp, q_asn, q_asc, q_pn, q_pc, wp_bind, wp_ok, List.map_cons, List.map_nil, List.replicate, List.cons_append, List.nil_append, List.append_nil, List.getElem?_cons_zero, List.getElem?_cons_succ, List.set_cons_zero, List.set_cons_succ, List.length_cons, List.length_nil, if_true, if_false, Nat.reduceAdd, Nat.reduceSub, Nat.reduceLT, Nat.reduceLeDiff, Nat.zero_add, Nat.lt_add_one, Nat.zero_lt_succ, decide_true, decide_false, Bool.not_true, Bool.not_false, ne_eq, not_false_eq_true, not_true_eq_false, Int.reduceEq, Int.reduceNe, Int.reduceLT, Int.reduceLE, Int.reduceNeg, Int.reduceToNat, Nat.reducePow, Nat.reduceEqDiff, Bool.false_eq_true, Bool.true_eq_false, List.any_cons, List.any_nil, Bool.or_false, Bool.or_true, Bool.false_or, Bool.true_or, Ty.sub, Int.cast_ofNat_Int, Int.natCast_zero, Int.natCast_one, eq_self, fInner, pt0, pt1, hm n _ S p.1 q.1 hp.1 hq.1 (bp.1.mono (by decide)) (bq.1.mono (by decide)), hm n _ S p.2 q.2 hp.2 hq.2 (bp.2.mono (by decide)) (bq.2.mono (by decide)),
    ha n _ S (mulF p.1 q.1) (mulF p.2 q.2) (mul_fr hp.1 hq.1) (mul_fr hp.2 hq.2) b1 b2]
  exact keepP rfl take_self
def gapF (p q : Pt) : Int × Int := dotF (mapP subF p q) (mapP subF p q)
theorem gap_ok {g l i m : Nat} (hg : T.fns[g]? = some (fGap l i)) (hl : ∀ (n lo : Nat) (S : Sto) (p q : Pt), PF p → PF q → PB 400 p → PB 400 q → run T (n + m) l lo [pt p, pt q] S = .ok (pt (mapP subF p q)) S)
    (hi : ∀ (n lo : Nat) (S : Sto) (p q : Pt), PF p → PF q → PB 1000 p → PB 1000 q → run T (n + m) i lo [pt p, pt q] S = .ok (fr (dotF p q)) S) {p q : Pt} (hp : PF p) (hq : PF q) (bp : PB 400 p) (bq : PB 400 q) :
    run T (n + m + 1) g lo [pt p, pt q] S = .ok (fr (gapF p q)) S := by
  refine Wp.eq (wp_run hg rfl (wp_b ?_))
  have h : PF (mapP subF p q) := ⟨sub_fr hp.1 hq.1, sub_fr hp.2 hq.2⟩
  have b : PB 1000 (mapP subF p q) := ⟨(bf_sub hp.1 hq.1 bp.1 bq.1).mono (by decide), (bf_sub hp.2 hq.2 bp.2 bq.2).mono (by decide)⟩
  simp only [q_slot, q_cst, q_glo, q_tup, q_lst, q_dic, q_bin, q_neg, q_not, q_cmp, q_ifx, q_isi, q_bi, q_call, q_idx, q_slc, q_append, q_extend, q_and, q_or, q_nil, q_cons, q_none, q_some, q_and1, q_and2, q_andT, q_andF, q_andB, q_or1, q_or2, q_orB, q_tval, q_tnot, q_tand, q_tor, q_tcmp, q_tand1, q_tand2, q_tor1, q_tor2, q_cnil, q_ccons, q_set, q_par, q_setix, q_ex, q_ret, q_retN, q_iff, q_pass, q_brk, q_cont, q_bnil, q_nextN, q_nextR, q_nextK, q_nextC, q_bok, q_getS, q_getO, q_t0, q_t1, q_t2, q_t3, q_t4, q_l0, q_l1, q_l2, q_l3, q_l4, q_l5, q_l6, q_l8, q_negI, q_notS, q_okB, q_okI, q_nxO, q_nxS, q_mkNon, q_iteT, q_iteF, q_ofB, q_addI, q_subI, q_mulI, q_fdivI, q_modI, q_powI, q_addT, q_eqI, q_neI, q_ltI, q_leI, q_gtI, q_geI, q_eqB, q_neB, q_eqS, q_neS, q_isB, q_isnB, q_isN, q_isnN, q_truB, q_truI, q_isiI, q_isiB, q_isiS, q_isiT, q_isiN, q_lenT, q_gcd, q_abs, q_max, q_min, q_int, q_tupT, q_listT, q_ixT, q_ixL, q_at0, q_at1, q_at2, q_at3, q_at4, q_nm, q_tp, q_asn, q_asc, q_pn, q_pc, wp_bind, wp_ok, List.map_cons, List.map_nil, List.replicate, List.cons_append, List.nil_append, List.append_nil, List.getElem?_cons_zero, List.getElem?_cons_succ, List.set_cons_zero, List.set_cons_succ, List.length_cons, List.length_nil, if_true, if_false, Nat.reduceAdd, Nat.reduceSub, Nat.reduceLT, Nat.reduceLeDiff, Nat.zero_add, Nat.lt_add_one, Nat.zero_lt_succ, decide_true, decide_false, Bool.not_true, Bool.not_false, ne_eq, not_false_eq_true, not_true_eq_false, Int.reduceEq, Int.reduceNe, Int.reduceLT, Int.reduceLE, Int.reduceNeg, Int.reduceToNat, Nat.reducePow, Nat.reduceEqDiff, Bool.false_eq_true, Bool.true_eq_false, List.any_cons, List.any_nil, Bool.or_false, Bool.or_true, Bool.false_or, Bool.true_or, Ty.sub, Int.cast_ofNat_Int, Int.natCast_zero, Int.natCast_one, eq_self, fGap, hl n _ S p q hp hq bp bq]
  refine wp_b ?_
  simp only [q_slot, q_cst, q_glo, q_tup, q_lst, q_dic, q_bin, q_neg, q_not, q_cmp, q_ifx, q_isi, q_bi, q_call, q_idx, q_slc, q_append, q_extend, q_and, q_or, q_nil, q_cons, q_none, q_some, q_and1, q_and2, q_andT, q_andF, q_andB, q_or1, q_or2, q_orB, q_tval, q_tnot, q_tand, q_tor, q_tcmp, q_tand1, q_tand2, q_tor1, q_tor2, q_cnil, q_ccons, q_set, q_par, q_setix, q_ex, q_ret, q_retN, q_iff, q_pass, q_brk, q_cont, q_bnil, q_nextN, q_nextR, q_nextK, q_nextC, q_bok, q_getS, q_getO, q_t0, q_t1, q_t2, q_t3, q_t4, q_l0, q_l1, q_l2, q_l3, q_l4, q_l5, q_l6, q_l8, q_negI, q_notS, q_okB, q_okI, q_nxO, q_nxS, q_mkNon, q_iteT, q_iteF, q_ofB, q_addI, q_subI, q_mulI, q_fdivI, q_modI, q_powI, q_addT, q_eqI, q_neI, q_ltI, q_leI, q_gtI, q_geI, q_eqB, q_neB, q_eqS, q_neS, q_isB, q_isnB, q_isN, q_isnN, q_truB, q_truI, q_isiI, q_isiB, q_isiS, q_isiT, q_isiN, q_lenT, q_gcd, q_abs, q_max, q_min, q_int, q_tupT, q_listT, q_ixT, q_ixL, q_at0, q_at1, q_at2, q_at3, q_at4, q_nm, q_tp, q_asn, q_asc, q_pn, q_pc, wp_bind, wp_ok, List.map_cons, List.map_nil, List.replicate, List.cons_append, List.nil_append, List.append_nil, List.getElem?_cons_zero, List.getElem?_cons_succ, List.set_cons_zero, List.set_cons_succ, List.length_cons, List.length_nil, if_true, if_false, Nat.reduceAdd, Nat.reduceSub, Nat.reduceLT, Nat.reduceLeDiff, Nat.zero_add, Nat.lt_add_one, Nat.zero_lt_succ, decide_true, decide_false, Bool.not_true, Bool.not_false, ne_eq, not_false_eq_true, not_true_eq_false, Int.reduceEq, Int.reduceNe, Int.reduceLT, Int.reduceLE, Int.reduceNeg, Int.reduceToNat, Nat.reducePow, Nat.reduceEqDiff, Bool.false_eq_true, Bool.true_eq_false, List.any_cons, List.any_nil, Bool.or_false, Bool.or_true, Bool.false_or, Bool.true_or, Ty.sub, Int.cast_ofNat_Int, Int.natCast_zero, Int.natCast_one, eq_self, hi n _ S _ _ h h b b]
  exact keepP rfl take_self
/-- check, check, do -/
def fPtOp (c o c2 : Nat) : Fn := ⟨2, 2, true, [.ex (.call c [.slot 0]), .ret (.call o [.slot 0, .call c2 [.slot 1]])]⟩
theorem ptOp_ok {g c o c2 m : Nat} {a b d : D} (hg : T.fns[g]? = some (fPtOp c o c2)) (h1 : ∀ lo S, run T (n + m) c lo [a] S = .ok a S) (h2 : ∀ lo S, run T (n + m) c2 lo [b] S = .ok b S) (h3 : ∀ lo S, run T (n + m) o lo [a, b] S = .ok d S) (hd : pureD d = true) :
    run T (n + m + 1) g lo [a, b] S = .ok d S := by
  refine Wp.eq (wp_run hg rfl (wp_b ?_))
  simp only [q_slot, q_cst, q_glo, q_tup, q_lst, q_dic, q_bin, q_neg, q_not, q_cmp, q_ifx, q_isi, q_bi, q_call, q_idx, q_slc, q_append, q_extend, q_and, q_or, q_nil, q_cons, q_none, q_some, q_and1, q_and2, q_andT, q_andF, q_andB, q_or1, q_or2, q_orB, q_tval, q_tnot, q_tand, q_tor, q_tcmp, q_tand1, q_tand2, q_tor1, q_tor2, q_cnil, q_ccons, q_set, q_par, q_setix, q_ex, q_ret, q_retN, q_iff, q_pass, q_brk, q_cont, q_bnil, q_nextN, q_nextR, q_nextK, q_nextC, q_bok, q_getS, q_getO, q_t0, q_t1, q_t2, q_t3, q_t4, q_l0, q_l1, q_l2, q_l3, q_l4, q_l5, q_l6, q_l8, q_negI, q_notS, q_okB, q_okI, q_nxO, q_nxS, q_mkNon, q_iteT, q_iteF, q_ofB, q_addI, q_subI, q_mulI, q_fdivI, q_modI, q_powI, q_addT, q_eqI, q_neI, q_ltI, q_leI, q_gtI, q_geI, q_eqB, q_neB, q_eqS, q_neS, q_isB, q_isnB, q_isN, q_isnN, q_truB, q_truI, q_isiI, q_isiB, q_isiS, q_isiT, q_isiN, q_lenT, q_gcd, q_abs, q_max, q_min, q_int, q_tupT, q_listT, q_ixT, q_ixL, q_at0, q_at1, q_at2, q_at3, q_at4, q_nm, q_tp, q_asn, q_asc, q_pn, q_pc, wp_bind, wp_ok, List.map_cons, List.map_nil, List.replicate, List.cons_append, List.nil_append, List.append_nil, List.getElem?_cons_zero, List.getElem?_cons_succ, List.set_cons_zero, List.set_cons_succ, List.length_cons, List.length_nil, if_true, if_false, Nat.reduceAdd, Nat.reduceSub, Nat.reduceLT, Nat.reduceLeDiff, Nat.zero_add, Nat.lt_add_one, Nat.zero_lt_succ, decide_true, decide_false, Bool.not_true, Bool.not_false, ne_eq, not_false_eq_true, not_true_eq_false, Int.reduceEq, Int.reduceNe, Int.reduceLT, Int.reduceLE, Int.reduceNeg, Int.reduceToNat, Nat.reducePow, Nat.reduceEqDiff, Bool.false_eq_true, Bool.true_eq_false, List.any_cons, List.any_nil, Bool.or_false, Bool.or_true, Bool.false_or, Bool.true_or, Ty.sub, Int.cast_ofNat_Int, Int.natCast_zero, Int.natCast_one, eq_self, fPtOp, h1]
  refine wp_b ?_
  simp only [q_slot, q_cst, q_glo, q_tup, q_lst, q_dic, q_bin, q_neg, q_not, q_cmp, q_ifx, q_isi, q_bi, q_call, q_idx, q_slc, q_append, q_extend, q_and, q_or, q_nil, q_cons, q_none, q_some, q_and1, q_and2, q_andT, q_andF, q_andB, q_or1, q_or2, q_orB, q_tval, q_tnot, q_tand, q_tor, q_tcmp, q_tand1, q_tand2, q_tor1, q_tor2, q_cnil, q_ccons, q_set, q_par, q_setix, q_ex, q_ret, q_retN, q_iff, q_pass, q_brk, q_cont, q_bnil, q_nextN, q_nextR, q_nextK, q_nextC, q_bok, q_getS, q_getO, q_t0, q_t1, q_t2, q_t3, q_t4, q_l0, q_l1, q_l2, q_l3, q_l4, q_l5, q_l6, q_l8, q_negI, q_notS, q_okB, q_okI, q_nxO, q_nxS, q_mkNon, q_iteT, q_iteF, q_ofB, q_addI, q_subI, q_mulI, q_fdivI, q_modI, q_powI, q_addT, q_eqI, q_neI, q_ltI, q_leI, q_gtI, q_geI, q_eqB, q_neB, q_eqS, q_neS, q_isB, q_isnB, q_isN, q_isnN, q_truB, q_truI, q_isiI, q_isiB, q_isiS, q_isiT, q_isiN, q_lenT, q_gcd, q_abs, q_max, q_min, q_int, q_tupT, q_listT, q_ixT, q_ixL, q_at0, q_at1, q_at2, q_at3, q_at4, q_nm, q_tp, q_asn, q_asc, q_pn, q_pc, wp_bind, wp_ok, List.map_cons, List.map_nil, List.replicate, List.cons_append, List.nil_append, List.append_nil, List.getElem?_cons_zero, List.getElem?_cons_succ, List.set_cons_zero, List.set_cons_succ, List.length_cons, List.length_nil, if_true, if_false, Nat.reduceAdd, Nat.reduceSub, Nat.reduceLT, Nat.reduceLeDiff, Nat.zero_add, Nat.lt_add_one, Nat.zero_lt_succ, decide_true, decide_false, Bool.not_true, Bool.not_false, ne_eq, not_false_eq_true, not_true_eq_false, Int.reduceEq, Int.reduceNe, Int.reduceLT, Int.reduceLE, Int.reduceNeg, Int.reduceToNat, Nat.reducePow, Nat.reduceEqDiff, Bool.false_eq_true, Bool.true_eq_false, List.any_cons, List.any_nil, Bool.or_false, Bool.or_true, Bool.false_or, Bool.true_or, Ty.sub, Int.cast_ofNat_Int, Int.natCast_zero, Int.natCast_one, eq_self, h2, h3]
  exact keepP hd take_self
end
end Pd
namespace K01
open PySem PySem.Spec PyProof.Rows L2 Pd
def top (i : Nat) : Stmt := PySem.Challenge.pw_withinshapes_k01_points.main.body.getD i (.Pass ⟨0, 0, 0, 0⟩)
def b0 : List IS := [.ret (.and [.isi (.slot 0) [.int], .not (.isi (.slot 0) [.bool])])]
def b1 : List IS := [.iff (.or [.not (.val (.isi (.slot 0) [.tuple])), .cmp .ne (.bi .len [.slot 0]) (.cst (.int 2)), .not (.val (.call 0 [.idx (.slot 0) (.cst (.int 0))])), .not (.val (.call 0 [.idx (.slot 0) (.cst (.int 1))]))]) [.ret (.cst (.bl false))] [], .ret (.and [.cmp .gt (.idx (.slot 0) (.cst (.int 1))) (.cst (.int 0)), .cmp .eq (.bi .gcd [.idx (.slot 0) (.cst (.int 0)), .idx (.slot 0) (.cst (.int 1))]) (.cst (.int 1))])]
def b2 : List IS := [.iff (.not (.val (.call 1 [.slot 0]))) [.never] [], .ret (.slot 0)]
def b3 : List IS := [.set (.nm 2) (.bi .gcd [.slot 0, .slot 1]), .iff (.cmp .lt (.slot 1) (.cst (.int 0))) [.set (.nm 2) (.neg (.slot 2))] [], .ret (.tup [.bin .fdiv (.slot 0) (.slot 2), .bin .fdiv (.slot 1) (.slot 2)])]
def b4 : List IS := [.ret (.call 3 [.bin .add (.bin .mul (.idx (.slot 0) (.cst (.int 0))) (.idx (.slot 1) (.cst (.int 1)))) (.bin .mul (.idx (.slot 1) (.cst (.int 0))) (.idx (.slot 0) (.cst (.int 1)))), .bin .mul (.idx (.slot 0) (.cst (.int 1))) (.idx (.slot 1) (.cst (.int 1)))])]
def b5 : List IS := [.ret (.call 3 [.bin .sub (.bin .mul (.idx (.slot 0) (.cst (.int 0))) (.idx (.slot 1) (.cst (.int 1)))) (.bin .mul (.idx (.slot 1) (.cst (.int 0))) (.idx (.slot 0) (.cst (.int 1)))), .bin .mul (.idx (.slot 0) (.cst (.int 1))) (.idx (.slot 1) (.cst (.int 1)))])]
def b6 : List IS := [.ret (.call 3 [.bin .mul (.idx (.slot 0) (.cst (.int 0))) (.idx (.slot 1) (.cst (.int 0))), .bin .mul (.idx (.slot 0) (.cst (.int 1))) (.idx (.slot 1) (.cst (.int 1)))])]
def b7 : List IS := [.iff (.or [.not (.val (.isi (.slot 0) [.tuple])), .cmp .ne (.bi .len [.slot 0]) (.cst (.int 2))]) [.ret (.cst (.bl false))] [], .ret (.and [.call 1 [.idx (.slot 0) (.cst (.int 0))], .call 1 [.idx (.slot 0) (.cst (.int 1))]])]
def b8 : List IS := [.iff (.not (.val (.call 7 [.slot 0]))) [.never] [], .ret (.slot 0)]
def b9 : List IS := [.ret (.tup [.call 4 [.idx (.slot 0) (.cst (.int 0)), .idx (.slot 1) (.cst (.int 0))], .call 4 [.idx (.slot 0) (.cst (.int 1)), .idx (.slot 1) (.cst (.int 1))]])]
def b10 : List IS := [.ret (.tup [.call 5 [.idx (.slot 0) (.cst (.int 0)), .idx (.slot 1) (.cst (.int 0))], .call 5 [.idx (.slot 0) (.cst (.int 1)), .idx (.slot 1) (.cst (.int 1))]])]
def b11 : List IS := [.ret (.tup [.call 6 [.idx (.slot 0) (.cst (.int 0)), .slot 1], .call 6 [.idx (.slot 0) (.cst (.int 1)), .slot 1]])]
def b12 : List IS := [.ret (.call 4 [.call 6 [.idx (.slot 0) (.cst (.int 0)), .idx (.slot 1) (.cst (.int 0))], .call 6 [.idx (.slot 0) (.cst (.int 1)), .idx (.slot 1) (.cst (.int 1))]])]
def b13 : List IS := [.set (.nm 2) (.call 10 [.slot 0, .slot 1]), .ret (.call 12 [.slot 2, .slot 2])]
def b14 : List IS := [.set (.nm 1) (.glo 0), .loop (.nm 2) .seq [.slot 0] [.set (.nm 1) (.call 9 [.slot 1, .slot 2])], .ret (.call 11 [.slot 1, .call 3 [.cst (.int 1), .bi .len [.slot 0]]])]
def b15 : List IS := [.ret (.call 8 [.slot 0])]
def b16 : List IS := [.ex (.call 8 [.slot 0]), .ret (.call 9 [.slot 0, .call 8 [.slot 1]])]
def b17 : List IS := [.ex (.call 8 [.slot 0]), .ret (.call 11 [.slot 0, .call 2 [.slot 1]])]
def b18 : List IS := [.ex (.call 8 [.slot 0]), .ret (.call 13 [.slot 0, .call 8 [.slot 1]])]
def b19 : List IS := [.iff (.or [.not (.val (.isi (.slot 0) [.tuple])), .cmp .eq (.bi .len [.slot 0]) (.cst (.int 0))]) [.never] [], .loop (.nm 1) .seq [.slot 0] [.ex (.call 8 [.slot 1])], .ret (.call 14 [.slot 0])]
def b20 : List IS := [.set (.nm 0) (.bin .mod (.bi .int [.slot 0]) (.cst (.int 2147483647))), .ret (.bin .mod (.bin .mul (.bin .mod (.bin .add (.bin .add (.bin .mul (.slot 0) (.bin .add (.cst (.int 48271)) (.bin .mul (.bin .mul (.cst (.int 2)) (.slot 1)) (.slot 1)))) (.bin .mul (.cst (.int 69621)) (.slot 1))) (.cst (.int 11))) (.cst (.int 2147483647))) (.cst (.int 69621))) (.cst (.int 2147483629)))]
def b21 : List IS := [.set (.nm 1) (.ifx (.cmp .ne (.slot 0) (.lst [])) (.bi .list [.slot 0]) (.lst [.cst (.int 0)])), .ret (.dic ["cells", "lefts", "at"] [.slot 1, .lc [2] (.nm 2) .seq [.slot 1] [] (.ifx (.cmp .ge (.slot 2) (.bin .pow (.cst (.int 10)) (.cst (.int 18)))) (.slot 2) (.cst (.int 0))), .cst (.int 0)])]
def b22 : List IS := [.set (.nm 2) (.idx (.slot 0) (.cst (.str "at"))), .setix (.slot 0) (.cst (.str "at")) (.bin .add (.slot 2) (.cst (.int 1))), .set (.nm 3) (.bin .mod (.bi .int [.slot 2]) (.bi .len [.idx (.slot 0) (.cst (.str "cells"))])), .set (.nm 4) (.idx (.idx (.slot 0) (.cst (.str "lefts"))) (.slot 3)), .iff (.cmp .gt (.slot 4) (.cst (.int 0))) [.setix (.idx (.slot 0) (.cst (.str "lefts"))) (.slot 3) (.bin .fdiv (.slot 4) (.slot 1)), .ret (.bin .mod (.bi .int [.slot 4]) (.slot 1))] [], .set (.nm 5) (.call 20 [.call 20 [.idx (.idx (.slot 0) (.cst (.str "cells"))) (.slot 3), .slot 2], .bin .add (.cst (.int 40)) (.slot 2)]), .ret (.bin .mod (.bin .fdiv (.bi .int [.bin .add (.bin .mul (.slot 5) (.cst (.int 2147483647))) (.call 20 [.slot 5, .bin .add (.cst (.int 7)) (.slot 2)])]) (.cst (.int 64))) (.slot 1))]
def b23 : List IS := [.ret (.idx (.slot 1) (.call 22 [.slot 0, .bi .len [.slot 1]]))]
def b24 : List IS := [.par [0, 1] [.bi .abs [.slot 0], .bi .abs [.slot 1]], .loop (.nm 2) .range [.cst (.int 100000)] [.iff (.cmp .eq (.slot 1) (.cst (.int 0))) [.ret (.slot 0)] [], .par [0, 1] [.slot 1, .bin .mod (.slot 0) (.slot 1)]], .ret (.slot 0)]
def b25 : List IS := [.set (.nm 2) (.call 24 [.slot 0, .slot 1]), .set (.nm 2) (.ifx (.cmp .gt (.slot 1) (.cst (.int 0))) (.slot 2) (.neg (.slot 2))), .ret (.tup [.bin .fdiv (.slot 0) (.slot 2), .bin .fdiv (.slot 1) (.slot 2)])]
def b26 : List IS := [.ret (.call 25 [.bin .add (.bin .mul (.idx (.slot 0) (.cst (.int 0))) (.idx (.slot 1) (.cst (.int 1)))) (.bin .mul (.idx (.slot 1) (.cst (.int 0))) (.idx (.slot 0) (.cst (.int 1)))), .bin .mul (.idx (.slot 0) (.cst (.int 1))) (.idx (.slot 1) (.cst (.int 1)))])]
def b27 : List IS := [.ret (.call 25 [.bin .sub (.bin .mul (.idx (.slot 0) (.cst (.int 0))) (.idx (.slot 1) (.cst (.int 1)))) (.bin .mul (.idx (.slot 1) (.cst (.int 0))) (.idx (.slot 0) (.cst (.int 1)))), .bin .mul (.idx (.slot 0) (.cst (.int 1))) (.idx (.slot 1) (.cst (.int 1)))])]
def b28 : List IS := [.ret (.call 25 [.bin .mul (.idx (.slot 0) (.cst (.int 0))) (.idx (.slot 1) (.cst (.int 0))), .bin .mul (.idx (.slot 0) (.cst (.int 1))) (.idx (.slot 1) (.cst (.int 1)))])]
def b29 : List IS := [.ret (.tup [.call 26 [.idx (.slot 0) (.cst (.int 0)), .idx (.slot 1) (.cst (.int 0))], .call 26 [.idx (.slot 0) (.cst (.int 1)), .idx (.slot 1) (.cst (.int 1))]])]
def b30 : List IS := [.ret (.tup [.call 28 [.idx (.slot 0) (.cst (.int 0)), .slot 1], .call 28 [.idx (.slot 0) (.cst (.int 1)), .slot 1]])]
def b31 : List IS := [.par [2, 3] [.call 27 [.idx (.slot 0) (.cst (.int 0)), .idx (.slot 1) (.cst (.int 0))], .call 27 [.idx (.slot 0) (.cst (.int 1)), .idx (.slot 1) (.cst (.int 1))]], .ret (.call 26 [.call 28 [.slot 2, .slot 2], .call 28 [.slot 3, .slot 3]])]
def b32 : List IS := [.ret (.cmp .eq (.bi .repr [.slot 0]) (.bi .repr [.slot 1]))]
def b33 : List IS := [.set (.nm 1) (.lst []), .loop (.nm 2) .range [.cst (.int 2)] [.ex (.append (.slot 1) (.call 25 [.bin .sub (.call 22 [.slot 0, .cst (.int 41)]) (.cst (.int 20)), .call 23 [.slot 0, .lst [.cst (.int 1), .cst (.int 1), .cst (.int 2), .cst (.int 3), .cst (.int 7), .cst (.int 12)]]]))], .ret (.bi .tuple [.slot 1])]
def b34 : List IS := [.set (.nm 1) (.lc [13] (.nm 13) .range [.bin .add (.cst (.int 1)) (.call 22 [.slot 0, .cst (.int 6)])] [] (.call 33 [.slot 0])), .par [11, 12] [.idx (.slot 1) (.cst (.int 0)), .idx (.slot 1) (.neg (.cst (.int 1)))], .set (.nm 2) (.call 25 [.bin .sub (.call 22 [.slot 0, .cst (.int 13)]) (.cst (.int 6)), .bin .add (.cst (.int 1)) (.call 22 [.slot 0, .cst (.int 4)])]), .set (.nm 3) (.lst [.call 16 [.slot 11, .slot 12], .call 17 [.slot 11, .slot 2], .call 18 [.slot 11, .slot 12], .call 18 [.slot 12, .slot 11]]), .ex (.append (.slot 3) (.call 15 [.slot 11])), .set (.nm 4) (.call 31 [.slot 11, .slot 12]), .iff (.not (.val (.call 32 [.slot 3, .lst [.call 29 [.slot 11, .slot 12], .call 30 [.slot 11, .slot 2], .slot 4, .slot 4, .slot 11]]))) [.ret (.cst (.bl false))] [], .iff (.cmp .ne (.cmp .eq (.slot 4) (.tup [.cst (.int 0), .cst (.int 1)])) (.cmp .eq (.slot 11) (.slot 12))) [.ret (.cst (.bl false))] [], .set (.nm 5) (.call 18 [.call 17 [.slot 11, .slot 2], .call 17 [.slot 12, .slot 2]]), .iff (.not (.val (.call 32 [.slot 5, .call 28 [.slot 4, .call 28 [.slot 2, .slot 2]]]))) [.ret (.cst (.bl false))] [], .set (.nm 6) (.tup [.tup [.cst (.int 0), .cst (.int 1)], .tup [.cst (.int 0), .cst (.int 1)]]), .loop (.nm 7) .seq [.slot 1] [.set (.nm 6) (.call 29 [.slot 6, .slot 7])], .set (.nm 8) (.call 30 [.slot 6, .tup [.cst (.int 1), .bi .len [.slot 1]]]), .set (.nm 9) (.call 33 [.slot 0]), .set (.nm 10) (.call 30 [.call 29 [.call 30 [.slot 8, .tup [.bi .len [.slot 1], .cst (.int 1)]], .slot 9], .tup [.cst (.int 1), .bin .add (.bi .len [.slot 1]) (.cst (.int 1))]]), .ret (.call 32 [.lst [.call 19 [.bi .tuple [.slot 1]], .call 19 [.bi .tuple [.bin .add (.slot 1) (.lst [.slot 9])]]], .lst [.slot 8, .slot 10]])]
def b35 : List IS := [.set (.nm 1) (.call 21 [.slot 0]), .loop (.nm 2) .range [.cst (.int 8)] [.iff (.not (.val (.call 34 [.slot 1]))) [.ret (.cst (.bl false))] []], .set (.tp [.nm 5, .nm 6]) (.tup [.tup [.tup [.cst (.int 1), .cst (.int 2)], .tup [.cst (.int 0), .cst (.int 1)]], .tup [.tup [.neg (.cst (.int 1)), .cst (.int 1)], .tup [.cst (.int 2), .cst (.int 3)]]]), .set (.nm 3) (.lst [.callk 16 [] [1, 0] [.slot 6, .slot 5], .callk 17 [] [1, 0] [.tup [.neg (.cst (.int 2)), .cst (.int 1)], .slot 5], .callk 18 [] [1, 0] [.slot 6, .slot 5]]), .set (.nm 3) (.bin .add (.slot 3) (.lst [.callk 19 [] [0] [.tup [.slot 5, .slot 6]], .callk 15 [] [0] [.slot 6]])), .set (.nm 4) (.lst [.tup [.tup [.neg (.cst (.int 1)), .cst (.int 2)], .tup [.cst (.int 2), .cst (.int 3)]], .tup [.tup [.neg (.cst (.int 1)), .cst (.int 1)], .tup [.cst (.int 0), .cst (.int 1)]], .tup [.cst (.int 97), .cst (.int 36)], .tup [.tup [.neg (.cst (.int 1)), .cst (.int 4)], .tup [.cst (.int 1), .cst (.int 3)]], .slot 6]), .ret (.call 32 [.slot 3, .slot 4])]
def d0 : Dd := ⟨"is_integer", ["value"], ["value"], ⟨1, 1, true, b0⟩, 6⟩ -- is_integer
def d1 : Dd := ⟨"is_fraction", ["value"], ["value"], ⟨1, 1, true, b1⟩, 7⟩ -- is_fraction
def d2 : Dd := ⟨"check_fraction", ["value"], ["value"], ⟨1, 1, true, b2⟩, 8⟩ -- check_fraction
def d3 : Dd := ⟨"reduced_in", ["above", "below"], ["above", "below", "common"], ⟨2, 3, true, b3⟩, 9⟩ -- reduced_in
def d4 : Dd := ⟨"plus_in", ["one", "other"], ["one", "other"], ⟨2, 2, true, b4⟩, 10⟩ -- plus_in
def d5 : Dd := ⟨"minus_in", ["one", "other"], ["one", "other"], ⟨2, 2, true, b5⟩, 11⟩ -- minus_in
def d6 : Dd := ⟨"times_in", ["one", "other"], ["one", "other"], ⟨2, 2, true, b6⟩, 12⟩ -- times_in
def d7 : Dd := ⟨"is_point", ["value"], ["value"], ⟨1, 1, true, b7⟩, 15⟩ -- is_point
def d8 : Dd := ⟨"check_point", ["value"], ["value"], ⟨1, 1, true, b8⟩, 16⟩ -- check_point
def d9 : Dd := ⟨"sum_points", ["one", "other"], ["one", "other"], ⟨2, 2, true, b9⟩, 17⟩ -- sum_points
def d10 : Dd := ⟨"less_points", ["one", "other"], ["one", "other"], ⟨2, 2, true, b10⟩, 18⟩ -- less_points
def d11 : Dd := ⟨"scaled_point", ["point", "factor"], ["point", "factor"], ⟨2, 2, true, b11⟩, 19⟩ -- scaled_point
def d12 : Dd := ⟨"inner_in", ["one", "other"], ["one", "other"], ⟨2, 2, true, b12⟩, 20⟩ -- inner_in
def d13 : Dd := ⟨"gap_in", ["one", "other"], ["one", "other", "between"], ⟨2, 3, true, b13⟩, 21⟩ -- gap_in
def d14 : Dd := ⟨"mean_in", ["points"], ["points", "found", "point"], ⟨1, 3, true, b14⟩, 22⟩ -- mean_in
def d15 : Dd := ⟨"need_point", ["point"], ["point"], ⟨1, 1, true, b15⟩, 23⟩ -- need_point
def d16 : Dd := ⟨"point_plus", ["one", "other"], ["one", "other"], ⟨2, 2, true, b16⟩, 24⟩ -- point_plus
def d17 : Dd := ⟨"point_times", ["point", "factor"], ["point", "factor"], ⟨2, 2, true, b17⟩, 25⟩ -- point_times
def d18 : Dd := ⟨"squared", ["one", "other"], ["one", "other"], ⟨2, 2, true, b18⟩, 26⟩ -- squared
def d19 : Dd := ⟨"mean_of", ["points"], ["points", "point"], ⟨1, 2, true, b19⟩, 27⟩ -- mean_of
def d20 : Dd := ⟨"_law_mixed", ["cell", "k"], ["cell", "k"], ⟨2, 2, true, b20⟩, 29⟩ -- _law_mixed
def d21 : Dd := ⟨"_law_begin", ["script"], ["script", "cells_so", "cell"], ⟨1, 3, false, b21⟩, 30⟩ -- _law_begin
def d22 : Dd := ⟨"_law_draw", ["state_so", "limit"], ["state_so", "limit", "at", "spot", "left", "mixed"], ⟨2, 6, false, b22⟩, 31⟩ -- _law_draw
def d23 : Dd := ⟨"_law_of", ["state_so", "some"], ["state_so", "some"], ⟨2, 2, false, b23⟩, 32⟩ -- _law_of
def d24 : Dd := ⟨"_law_divisor", ["first", "second"], ["first", "second", "step"], ⟨2, 3, true, b24⟩, 33⟩ -- _law_divisor
def d25 : Dd := ⟨"_law_share", ["above", "below"], ["above", "below", "told"], ⟨2, 3, true, b25⟩, 34⟩ -- _law_share
def d26 : Dd := ⟨"_law_plus", ["first", "second"], ["first", "second"], ⟨2, 2, true, b26⟩, 35⟩ -- _law_plus
def d27 : Dd := ⟨"_law_minus", ["first", "second"], ["first", "second"], ⟨2, 2, true, b27⟩, 36⟩ -- _law_minus
def d28 : Dd := ⟨"_law_times", ["first", "second"], ["first", "second"], ⟨2, 2, true, b28⟩, 37⟩ -- _law_times
def d29 : Dd := ⟨"_law_spot_plus", ["first", "second"], ["first", "second"], ⟨2, 2, true, b29⟩, 38⟩ -- _law_spot_plus
def d30 : Dd := ⟨"_law_spot_times", ["first", "factor_so"], ["first", "factor_so"], ⟨2, 2, true, b30⟩, 39⟩ -- _law_spot_times
def d31 : Dd := ⟨"_law_apart", ["first", "second"], ["first", "second", "across", "down"], ⟨2, 4, true, b31⟩, 40⟩ -- _law_apart
def d32 : Dd := ⟨"_law_like", ["got", "due"], ["got", "due"], ⟨2, 2, true, b32⟩, 41⟩ -- _law_like
def d33 : Dd := ⟨"_law_drawn", ["state_so"], ["state_so", "found", "step"], ⟨1, 3, false, b33⟩, 42⟩ -- _law_drawn
def d34 : Dd := ⟨"_law_right", ["state_so"], ["state_so", "some", "scale", "got", "far", "away", "whole", "spot", "due", "more", "mixed", "first", "second", "step"], ⟨1, 14, false, b34⟩, 43⟩ -- _law_right
def d35 : Dd := ⟨"law", ["script"], ["script", "state_so", "turn_so", "got", "due", "near", "far"], ⟨1, 7, false, b35⟩, 44⟩ -- law
def defs : List Dd := [d0, d1, d2, d3, d4, d5, d6, d7, d8, d9, d10, d11, d12, d13, d14, d15, d16, d17, d18, d19, d20, d21, d22, d23, d24, d25, d26, d27, d28, d29, d30, d31, d32, d33, d34, d35]
def gl : List (Str × D) := [("ORIGIN", .tup [(.tup [(.int 0), (.int 1)]), (.tup [(.int 0), (.int 1)])])]
def free : List Str := ["isinstance", "int", "bool", "tuple", "len", "list", "abs", "range", "repr"]
def kws : List (Nat × Nat × List Nat) := [(16, 0, [1, 0]), (17, 0, [1, 0]), (18, 0, [1, 0]), (19, 0, [0]), (15, 0, [0])]
abbrev G : GC := gcOf defs gl free true kws
abbrev T : Tab := tabOf defs gl
end K01
namespace K01
open PySem PySem.Spec PyProof.Rows L2 Pd
theorem chk : defs.all (chkD G top) = true := by decide +kernel
theorem bd0 : BindOk top d0 := fun _ _ _ _ _ _ us hl => match us, hl with | [_], _ => rfl
theorem bd1 : BindOk top d1 := fun _ _ _ _ _ _ us hl => match us, hl with | [_], _ => rfl
theorem bd2 : BindOk top d2 := fun _ _ _ _ _ _ us hl => match us, hl with | [_], _ => rfl
theorem bd3 : BindOk top d3 := fun _ _ _ _ _ _ us hl => match us, hl with | [_, _], _ => rfl
theorem bd4 : BindOk top d4 := fun _ _ _ _ _ _ us hl => match us, hl with | [_, _], _ => rfl
theorem bd5 : BindOk top d5 := fun _ _ _ _ _ _ us hl => match us, hl with | [_, _], _ => rfl
theorem bd6 : BindOk top d6 := fun _ _ _ _ _ _ us hl => match us, hl with | [_, _], _ => rfl
theorem bd7 : BindOk top d7 := fun _ _ _ _ _ _ us hl => match us, hl with | [_], _ => rfl
theorem bd8 : BindOk top d8 := fun _ _ _ _ _ _ us hl => match us, hl with | [_], _ => rfl
theorem bd9 : BindOk top d9 := fun _ _ _ _ _ _ us hl => match us, hl with | [_, _], _ => rfl
theorem bd10 : BindOk top d10 := fun _ _ _ _ _ _ us hl => match us, hl with | [_, _], _ => rfl
theorem bd11 : BindOk top d11 := fun _ _ _ _ _ _ us hl => match us, hl with | [_, _], _ => rfl
theorem bd12 : BindOk top d12 := fun _ _ _ _ _ _ us hl => match us, hl with | [_, _], _ => rfl
theorem bd13 : BindOk top d13 := fun _ _ _ _ _ _ us hl => match us, hl with | [_, _], _ => rfl
theorem bd14 : BindOk top d14 := fun _ _ _ _ _ _ us hl => match us, hl with | [_], _ => rfl
theorem bd15 : BindOk top d15 := fun _ _ _ _ _ _ us hl => match us, hl with | [_], _ => rfl
theorem bd16 : BindOk top d16 := fun _ _ _ _ _ _ us hl => match us, hl with | [_, _], _ => rfl
theorem bd17 : BindOk top d17 := fun _ _ _ _ _ _ us hl => match us, hl with | [_, _], _ => rfl
theorem bd18 : BindOk top d18 := fun _ _ _ _ _ _ us hl => match us, hl with | [_, _], _ => rfl
theorem bd19 : BindOk top d19 := fun _ _ _ _ _ _ us hl => match us, hl with | [_], _ => rfl
theorem bd20 : BindOk top d20 := fun _ _ _ _ _ _ us hl => match us, hl with | [_, _], _ => rfl
theorem bd21 : BindOk top d21 := fun _ _ _ _ _ _ us hl => match us, hl with | [_], _ => rfl
theorem bd22 : BindOk top d22 := fun _ _ _ _ _ _ us hl => match us, hl with | [_, _], _ => rfl
theorem bd23 : BindOk top d23 := fun _ _ _ _ _ _ us hl => match us, hl with | [_, _], _ => rfl
theorem bd24 : BindOk top d24 := fun _ _ _ _ _ _ us hl => match us, hl with | [_, _], _ => rfl
theorem bd25 : BindOk top d25 := fun _ _ _ _ _ _ us hl => match us, hl with | [_, _], _ => rfl
theorem bd26 : BindOk top d26 := fun _ _ _ _ _ _ us hl => match us, hl with | [_, _], _ => rfl
theorem bd27 : BindOk top d27 := fun _ _ _ _ _ _ us hl => match us, hl with | [_, _], _ => rfl
theorem bd28 : BindOk top d28 := fun _ _ _ _ _ _ us hl => match us, hl with | [_, _], _ => rfl
theorem bd29 : BindOk top d29 := fun _ _ _ _ _ _ us hl => match us, hl with | [_, _], _ => rfl
theorem bd30 : BindOk top d30 := fun _ _ _ _ _ _ us hl => match us, hl with | [_, _], _ => rfl
theorem bd31 : BindOk top d31 := fun _ _ _ _ _ _ us hl => match us, hl with | [_, _], _ => rfl
theorem bd32 : BindOk top d32 := fun _ _ _ _ _ _ us hl => match us, hl with | [_, _], _ => rfl
theorem bd33 : BindOk top d33 := fun _ _ _ _ _ _ us hl => match us, hl with | [_], _ => rfl
theorem bd34 : BindOk top d34 := fun _ _ _ _ _ _ us hl => match us, hl with | [_], _ => rfl
theorem bd35 : BindOk top d35 := fun _ _ _ _ _ _ us hl => match us, hl with | [_], _ => rfl
theorem binds : AllB top defs := .cons bd0 (.cons bd1 (.cons bd2 (.cons bd3 (.cons bd4 (.cons bd5 (.cons bd6 (.cons bd7 (.cons bd8 (.cons bd9 (.cons bd10 (.cons bd11 (.cons bd12 (.cons bd13 (.cons bd14 (.cons bd15 (.cons bd16 (.cons bd17 (.cons bd18 (.cons bd19 (.cons bd20 (.cons bd21 (.cons bd22 (.cons bd23 (.cons bd24 (.cons bd25 (.cons bd26 (.cons bd27 (.cons bd28 (.cons bd29 (.cons bd30 (.cons bd31 (.cons bd32 (.cons bd33 (.cons bd34 (.cons bd35 (.nil))))))))))))))))))))))))))))))))))))
theorem kw0 : KwOk top defs (16, 0, [1, 0]) := fun d hd => by
  cases hd
  exact fun _ _ _ _ _ _ us ws xs l1 l2 hx => match us, ws, l1, l2 with | [], [_, _], _, _ => by cases hx; rfl
theorem kw1 : KwOk top defs (17, 0, [1, 0]) := fun d hd => by
  cases hd
  exact fun _ _ _ _ _ _ us ws xs l1 l2 hx => match us, ws, l1, l2 with | [], [_, _], _, _ => by cases hx; rfl
theorem kw2 : KwOk top defs (18, 0, [1, 0]) := fun d hd => by
  cases hd
  exact fun _ _ _ _ _ _ us ws xs l1 l2 hx => match us, ws, l1, l2 with | [], [_, _], _, _ => by cases hx; rfl
theorem kw3 : KwOk top defs (19, 0, [0]) := fun d hd => by
  cases hd
  exact fun _ _ _ _ _ _ us ws xs l1 l2 hx => match us, ws, l1, l2 with | [], [_], _, _ => by cases hx; rfl
theorem kw4 : KwOk top defs (15, 0, [0]) := fun d hd => by
  cases hd
  exact fun _ _ _ _ _ _ us ws xs l1 l2 hx => match us, ws, l1, l2 with | [], [_], _, _ => by cases hx; rfl
theorem kwsOk : AllK top defs kws := .cons kw0 (.cons kw1 (.cons kw2 (.cons kw3 (.cons kw4 (.nil)))))
end K01
namespace K01
open PySem PySem.Spec PyProof.Rows L2 Pd
abbrev R : PySem.W.OpenRow := PySem.W.OpenLaw.row PySem.Challenge.rw_withinshapes_k01_points
abbrev hk : PySem.W.Hook := pdHook 5 (defs.map fun d => He.Fa.glo d.nm) (defs.map (Dd.datum top)) (exB gl free true)
def ob (s : PySem.W.SharedT) : He.AlD × Bool := pdObs 5 (defs.map fun d => He.Fa.glo d.nm) (defs.map (Dd.datum top)) (exB gl free true) (HandSHeadRun.getT s)
theorem ob_eq (s : PySem.W.SharedT) : ob s = hk.obs s.abs := pdObs_eq (HandSHeadRun.getT_eq s)
def loose : List PySem.Str := (["ShapeError", "BadPoint", "BadParameter", "is_integer", "is_fraction", "check_fraction", "reduced_in", "plus_in", "minus_in", "times_in", "ORIGIN", "is_point", "check_point", "sum_points", "less_points", "scaled_point", "inner_in", "gap_in", "mean_in", "need_point", "point_plus", "point_times", "squared", "mean_of", "_law_mixed"] : List PySem.Str) ++ (["_law_begin", "_law_draw", "_law_of", "_law_divisor", "_law_share", "_law_plus", "_law_minus", "_law_times", "_law_spot_plus", "_law_spot_times", "_law_apart", "_law_like", "_law_drawn", "_law_right"] : List PySem.Str)
theorem run (w : World) : HandSHeadRun.RunEqI R (PySem.W.view R.prog [0, 44]) hk ob 60000 loose w := by
  unfold HandSHeadRun.RunEqI
  kernel_rfl
end K01
namespace Pd
open PySem
/-- a walk over a tuple -/
theorem tup_inv {xs : List D} {f : D → Pd.Env → Sto → Out Fl} (I : Nat → Pd.Env → Sto → Prop) (step : ∀ (i : Nat) (σ : Pd.Env) (S : Sto) (h : i < xs.length), I i σ S → Wp (f xs[i] σ S) fun fl S' => ∃ σ', fl = .nx σ' ∧ I (i + 1) σ' S') :
    ∀ (k i : Nat) (σ : Pd.Env) (S : Sto), i + k = xs.length → I i σ S → Wp (forL (.tup xs) f (k + 1) i σ S) fun fl S' => ∃ σ', fl = .nx σ' ∧ I xs.length σ' S'
  | 0, i, σ, S, h, h0 => by
    have hi : i = xs.length := by omega
    subst hi
    refine Wp.of (a := .nx σ) (S := S) ?_ ⟨σ, rfl, h0⟩
    unfold forL
    have : Src.item S (.tup xs) xs.length = some none := by unfold Src.item; rw [List.getElem?_eq_none (Nat.le_refl _)]
    rw [this]
  | k + 1, i, σ, S, h, h0 => by
    have hi : i < xs.length := by omega
    have e : forL (.tup xs) f (k + 2) i σ S = (f xs[i] σ S).bind fun fl S => match fl with
      | .nx σ => forL (.tup xs) f (k + 1) (i + 1) σ S
      | .ct σ => forL (.tup xs) f (k + 1) (i + 1) σ S
      | .bk σ => .ok (.nx σ) S
      | .rt d => .ok (.rt d) S := by
      conv => lhs; unfold forL
      have : Src.item S (.tup xs) i = some (some xs[i]) := by unfold Src.item; rw [List.getElem?_eq_getElem hi]
      rw [this]
      try rfl
    rw [e, wp_bind]
    refine (step i σ S hi h0).imp fun fl S' ⟨σ', e1, h1⟩ => ?_
    subst e1
    exact tup_inv I step k (i + 1) σ' S' (by omega) h1
theorem loop_tup {C : Cx} {σ : Pd.Env} {S : Sto} {t : Tg} {e : IE} {body : List IS} {xs : List D} (h : evE C e σ S = .ok (.tup xs) S) : evS C (.loop t .seq [e] body) σ S = forL (.tup xs) (loopF C t body) (xs.length + 1) 0 σ S :=
  loop_eval (S1 := S) (ds := [.tup xs]) (by rw [q_cons, h]; rfl) rfl
/-! ### sums of points -/
def O2 : Pt := ((0, 1), (0, 1))
def sumP (ps : List Pt) : Pt := ps.foldl (mapP addF) O2
theorem o2_f : PF O2 := ⟨⟨by decide, by decide +kernel⟩, ⟨by decide, by decide +kernel⟩⟩
theorem bfA {k l : Nat} {x y : Int × Int} (h : Fr x) (g : Fr y) (bx : Bf k x) (by' : Bf l y) : Bf (k + l + 1) (addF x y) :=
  bf_red (mul_ne h.ne g.ne) (((bx.1.mul by'.2).add (by'.1.mul bx.2)).mono (by omega)) ((bx.2.mul by'.2).mono (by omega))
theorem bfM {k l : Nat} {x y : Int × Int} (h : Fr x) (g : Fr y) (bx : Bf k x) (by' : Bf l y) : Bf (k + l) (mulF x y) :=
  bf_red (mul_ne h.ne g.ne) (bx.1.mul by'.1) (bx.2.mul by'.2)
theorem addP_ok {k l : Nat} {p q : Pt} (hp : PF p) (hq : PF q) (bp : PB k p) (bq : PB l q) : PF (mapP addF p q) ∧ PB (k + l + 1) (mapP addF p q) :=
  ⟨⟨add_fr hp.1 hq.1, add_fr hp.2 hq.2⟩, bfA hp.1 hq.1 bp.1 bq.1, bfA hp.2 hq.2 bp.2 bq.2⟩
theorem mulS_ok {k l : Nat} {p : Pt} {x : Int × Int} (hp : PF p) (hx : Fr x) (bp : PB k p) (bx : Bf l x) : PF (mapS mulF p x) ∧ PB (k + l) (mapS mulF p x) :=
  ⟨⟨mul_fr hp.1 hx, mul_fr hp.2 hx⟩, bfM hp.1 hx bp.1 bx, bfM hp.2 hx bp.2 bx⟩
theorem PB.mono {k l : Nat} {p : Pt} (h : PB k p) (hl : k ≤ l) : PB l p := ⟨h.1.mono hl, h.2.mono hl⟩
theorem sumP_ok {k : Nat} : ∀ (ps : List Pt) (a : Pt) (l : Nat), PF a → PB l a → (∀ p ∈ ps, PF p ∧ PB k p) → PF (ps.foldl (mapP addF) a) ∧ PB (l + ps.length * (k + 1)) (ps.foldl (mapP addF) a)
  | [], a, l, h, b, _ => ⟨h, b.mono (by omega)⟩
  | p :: ps, a, l, h, b, hp => by
    obtain ⟨h1, b1⟩ := addP_ok h (hp p List.mem_cons_self).1 b (hp p List.mem_cons_self).2
    obtain ⟨h2, b2⟩ := sumP_ok ps (mapP addF a p) (l + k + 1) h1 b1 fun q hq => hp q (List.mem_cons_of_mem _ hq)
    refine ⟨h2, b2.mono ?_⟩
    rw [List.length_cons, Nat.add_mul]
    omega
def fMean (g s sc r : Nat) : Fn := ⟨1, 3, true, [.set (.nm 1) (.glo g), .loop (.nm 2) .seq [.slot 0] [.set (.nm 1) (.call s [.slot 1, .slot 2])], .ret (.call sc [.slot 1, .call r [.cst (.int 1), .bi .len [.slot 0]]])]⟩
def meanF (ps : List Pt) : Pt := mapS mulF (sumP ps) (1, (ps.length : Int))
theorem one_fr {n : Int} (h : 0 < n) : Fr (1, n) := ⟨h, by unfold gcdI; simp⟩
theorem red_one {n : Int} (h : 0 < n) : red 1 n = (1, n) := red_eq (by omega) (one_fr h) rfl
section
variable {T : Tab} {n lo : Nat} {S : Sto}
theorem mean_ok {f g s sc r m : Nat} (hf : T.fns[f]? = some (fMean g s sc r)) (hg : T.glo[g]? = some (pt O2)) (hs : ∀ (n lo : Nat) (S : Sto) (p q : Pt), PF p → PF q → PB 400 p → PB 400 q → run T (n + m) s lo [pt p, pt q] S = .ok (pt (mapP addF p q)) S)
    (hsc : ∀ (n lo : Nat) (S : Sto) (p : Pt) (x : Int × Int), PF p → Fr x → PB 400 p → Bf 400 x → run T (n + m) sc lo [pt p, fr x] S = .ok (pt (mapS mulF p x)) S)
    (hr : ∀ (n lo : Nat) (S : Sto) (a b : Int), b ≠ 0 → Bt 8000 a → Bt 8000 b → run T (n + m) r lo [.int a, .int b] S = .ok (fr (red a b)) S)
    {ps : List Pt} (hp : ∀ p ∈ ps, PF p ∧ PB 10 p) (h0 : 0 < ps.length) (h1 : ps.length ≤ 20) : run T (n + m + 1) f lo [.tup (ps.map pt)] S = .ok (pt (meanF ps)) S := by
  refine Wp.eq (wp_run hf rfl (wp_b ?_))
  simp only [q_slot, q_cst, q_glo, q_tup, q_lst, q_dic, q_bin, q_neg, q_not, q_cmp, q_ifx, q_isi, q_bi, q_call, q_idx, q_slc, q_append, q_extend, q_and, q_or, q_nil, q_cons, q_none, q_some, q_and1, q_and2, q_andT, q_andF, q_andB, q_or1, q_or2, q_orB, q_tval, q_tnot, q_tand, q_tor, q_tcmp, q_tand1, q_tand2, q_tor1, q_tor2, q_cnil, q_ccons, q_set, q_par, q_setix, q_ex, q_ret, q_retN, q_iff, q_pass, q_brk, q_cont, q_bnil, q_nextN, q_nextR, q_nextK, q_nextC, q_bok, q_getS, q_getO, q_t0, q_t1, q_t2, q_t3, q_t4, q_l0, q_l1, q_l2, q_l3, q_l4, q_l5, q_l6, q_l8, q_negI, q_notS, q_okB, q_okI, q_nxO, q_nxS, q_mkNon, q_iteT, q_iteF, q_ofB, q_addI, q_subI, q_mulI, q_fdivI, q_modI, q_powI, q_addT, q_eqI, q_neI, q_ltI, q_leI, q_gtI, q_geI, q_eqB, q_neB, q_eqS, q_neS, q_isB, q_isnB, q_isN, q_isnN, q_truB, q_truI, q_isiI, q_isiB, q_isiS, q_isiT, q_isiN, q_lenT, q_gcd, q_abs, q_max, q_min, q_int, q_tupT, q_listT, q_ixT, q_ixL, q_at0, q_at1, q_at2, q_at3, q_at4, q_nm, q_tp, q_asn, q_asc, q_pn, q_pc, wp_bind, wp_ok, List.map_cons, List.map_nil, List.replicate, List.cons_append, List.nil_append, List.append_nil, List.getElem?_cons_zero, List.getElem?_cons_succ, List.set_cons_zero, List.set_cons_succ, List.length_cons, List.length_nil, if_true, if_false, Nat.reduceAdd, Nat.reduceSub, Nat.reduceLT, Nat.reduceLeDiff, Nat.zero_add, Nat.lt_add_one, Nat.zero_lt_succ, decide_true, decide_false, Bool.not_true, Bool.not_false, ne_eq, not_false_eq_true, not_true_eq_false, Int.reduceEq, Int.reduceNe, Int.reduceLT, Int.reduceLE, Int.reduceNeg, Int.reduceToNat, Nat.reducePow, Nat.reduceEqDiff, Bool.false_eq_true, Bool.true_eq_false, List.any_cons, List.any_nil, Bool.or_false, Bool.or_true, Bool.false_or, Bool.true_or, Ty.sub, Int.cast_ofNat_Int, Int.natCast_zero, Int.natCast_one, eq_self, fMean, hg]
  refine wp_b ?_
  rw [loop_tup (xs := ps.map pt) rfl]
  refine (tup_inv (xs := ps.map pt) (fun i σ S' => S' = S ∧ ∃ x, σ = [some (.tup (ps.map pt)), some (pt (sumP (ps.take i))), x]) ?_ (ps.map pt).length 0 _ _ (by omega) ⟨rfl, none, rfl⟩).imp fun fl S' ⟨σ', e1, e2, x, e3⟩ => ?_
  · intro i σ S' hi ⟨e1, x, e2⟩
    subst e1 e2
    rw [List.length_map] at hi
    have hq := hp ps[i] (List.getElem_mem hi)
    obtain ⟨s1, s2⟩ : PF (sumP (ps.take i)) ∧ PB (10 + (ps.take i).length * 11) (sumP (ps.take i)) := sumP_ok (k := 10) (ps.take i) O2 10 o2_f ⟨⟨.c rfl, .c rfl⟩, ⟨.c rfl, .c rfl⟩⟩ fun p h => hp p (List.mem_of_mem_take h)
    have hl : (ps.take i).length ≤ 20 := by rw [List.length_take]; omega
    have e : sumP (ps.take (i + 1)) = mapP addF (sumP (ps.take i)) ps[i] := by
      unfold sumP
      rw [List.take_succ_eq_append_getElem hi, List.foldl_append]
      rfl
    rw [List.getElem_map]
    show Wp (evB _ [.set (.nm 1) (.call s [.slot 1, .slot 2])] [some (.tup (ps.map pt)), some (pt (sumP (ps.take i))), some (pt ps[i])] S') _
    refine wp_b ?_
    have e2 := fun lo => hs n lo S' _ _ s1 hq.1 (s2.mono (by omega)) (hq.2.mono (by decide))
    simp only [q_slot, q_cst, q_glo, q_tup, q_lst, q_dic, q_bin, q_neg, q_not, q_cmp, q_ifx, q_isi, q_bi, q_call, q_idx, q_slc, q_append, q_extend, q_and, q_or, q_nil, q_cons, q_none, q_some, q_and1, q_and2, q_andT, q_andF, q_andB, q_or1, q_or2, q_orB, q_tval, q_tnot, q_tand, q_tor, q_tcmp, q_tand1, q_tand2, q_tor1, q_tor2, q_cnil, q_ccons, q_set, q_par, q_setix, q_ex, q_ret, q_retN, q_iff, q_pass, q_brk, q_cont, q_bnil, q_nextN, q_nextR, q_nextK, q_nextC, q_bok, q_getS, q_getO, q_t0, q_t1, q_t2, q_t3, q_t4, q_l0, q_l1, q_l2, q_l3, q_l4, q_l5, q_l6, q_l8, q_negI, q_notS, q_okB, q_okI, q_nxO, q_nxS, q_mkNon, q_iteT, q_iteF, q_ofB, q_addI, q_subI, q_mulI, q_fdivI, q_modI, q_powI, q_addT, q_eqI, q_neI, q_ltI, q_leI, q_gtI, q_geI, q_eqB, q_neB, q_eqS, q_neS, q_isB, q_isnB, q_isN, q_isnN, q_truB, q_truI, q_isiI, q_isiB, q_isiS, q_isiT, q_isiN, q_lenT, q_gcd, q_abs, q_max, q_min, q_int, q_tupT, q_listT, q_ixT, q_ixL, q_at0, q_at1, q_at2, q_at3, q_at4, q_nm, q_tp, q_asn, q_asc, q_pn, q_pc, wp_bind, wp_ok, List.map_cons, List.map_nil, List.replicate, List.cons_append, List.nil_append, List.append_nil, List.getElem?_cons_zero, List.getElem?_cons_succ, List.set_cons_zero, List.set_cons_succ, List.length_cons, List.length_nil, if_true, if_false, Nat.reduceAdd, Nat.reduceSub, Nat.reduceLT, Nat.reduceLeDiff, Nat.zero_add, Nat.lt_add_one, Nat.zero_lt_succ, decide_true, decide_false, Bool.not_true, Bool.not_false, ne_eq, not_false_eq_true, not_true_eq_false, Int.reduceEq, Int.reduceNe, Int.reduceLT, Int.reduceLE, Int.reduceNeg, Int.reduceToNat, Nat.reducePow, Nat.reduceEqDiff, Bool.false_eq_true, Bool.true_eq_false, List.any_cons, List.any_nil, Bool.or_false, Bool.or_true, Bool.false_or, Bool.true_or, Ty.sub, Int.cast_ofNat_Int, Int.natCast_zero, Int.natCast_one, eq_self, e2]
    rw [← e]
    first | exact ⟨_, rfl, rfl, _, rfl⟩ | exact ⟨_, rfl, trivial, _, rfl⟩
  · subst e1 e2 e3
    rw [List.length_map, List.take_length]
    simp only [q_slot, q_cst, q_glo, q_tup, q_lst, q_dic, q_bin, q_neg, q_not, q_cmp, q_ifx, q_isi, q_bi, q_call, q_idx, q_slc, q_append, q_extend, q_and, q_or, q_nil, q_cons, q_none, q_some, q_and1, q_and2, q_andT, q_andF, q_andB, q_or1, q_or2, q_orB, q_tval, q_tnot, q_tand, q_tor, q_tcmp, q_tand1, q_tand2, q_tor1, q_tor2, q_cnil, q_ccons, q_set, q_par, q_setix, q_ex, q_ret, q_retN, q_iff, q_pass, q_brk, q_cont, q_bnil, q_nextN, q_nextR, q_nextK, q_nextC, q_bok, q_getS, q_getO, q_t0, q_t1, q_t2, q_t3, q_t4, q_l0, q_l1, q_l2, q_l3, q_l4, q_l5, q_l6, q_l8, q_negI, q_notS, q_okB, q_okI, q_nxO, q_nxS, q_mkNon, q_iteT, q_iteF, q_ofB, q_addI, q_subI, q_mulI, q_fdivI, q_modI, q_powI, q_addT, q_eqI, q_neI, q_ltI, q_leI, q_gtI, q_geI, q_eqB, q_neB, q_eqS, q_neS, q_isB, q_isnB, q_isN, q_isnN, q_truB, q_truI, q_isiI, q_isiB, q_isiS, q_isiT, q_isiN, q_lenT, q_gcd, q_abs, q_max, q_min, q_int, q_tupT, q_listT, q_ixT, q_ixL, q_at0, q_at1, q_at2, q_at3, q_at4, q_nm, q_tp, q_asn, q_asc, q_pn, q_pc, wp_bind, wp_ok, List.map_cons, List.map_nil, List.replicate, List.cons_append, List.nil_append, List.append_nil, List.getElem?_cons_zero, List.getElem?_cons_succ, List.set_cons_zero, List.set_cons_succ, List.length_cons, List.length_nil, if_true, if_false, Nat.reduceAdd, Nat.reduceSub, Nat.reduceLT, Nat.reduceLeDiff, Nat.zero_add, Nat.lt_add_one, Nat.zero_lt_succ, decide_true, decide_false, Bool.not_true, Bool.not_false, ne_eq, not_false_eq_true, not_true_eq_false, Int.reduceEq, Int.reduceNe, Int.reduceLT, Int.reduceLE, Int.reduceNeg, Int.reduceToNat, Nat.reducePow, Nat.reduceEqDiff, Bool.false_eq_true, Bool.true_eq_false, List.any_cons, List.any_nil, Bool.or_false, Bool.or_true, Bool.false_or, Bool.true_or, Ty.sub, Int.cast_ofNat_Int, Int.natCast_zero, Int.natCast_one, eq_self]
    refine wp_b ?_
    obtain ⟨s1, s2⟩ : PF (sumP ps) ∧ PB (10 + ps.length * 11) (sumP ps) := sumP_ok (k := 10) ps O2 10 o2_f ⟨⟨.c rfl, .c rfl⟩, ⟨.c rfl, .c rfl⟩⟩ hp
    have hn : (0 : Int) < (ps.length : Int) := by omega
    have bn : Bt 10 (ps.length : Int) := .of (by omega) (by omega)
    have e1 := fun lo => hr n lo S' 1 (ps.length : Int) (by omega) (.c rfl) (bn.mono (by decide))
    rw [red_one hn] at e1
    have e2 := fun lo => hsc n lo S' _ _ s1 (one_fr hn) (s2.mono (by omega)) ⟨.c rfl, bn.mono (by decide)⟩
    simp only [q_slot, q_cst, q_glo, q_tup, q_lst, q_dic, q_bin, q_neg, q_not, q_cmp, q_ifx, q_isi, q_bi, q_call, q_idx, q_slc, q_append, q_extend, q_and, q_or, q_nil, q_cons, q_none, q_some, q_and1, q_and2, q_andT, q_andF, q_andB, q_or1, q_or2, q_orB, q_tval, q_tnot, q_tand, q_tor, q_tcmp, q_tand1, q_tand2, q_tor1, q_tor2, q_cnil, q_ccons, q_set, q_par, q_setix, q_ex, q_ret, q_retN, q_iff, q_pass, q_brk, q_cont, q_bnil, q_nextN, q_nextR, q_nextK, q_nextC, q_bok, q_getS, q_getO, q_t0, q_t1, q_t2, q_t3, q_t4, q_l0, q_l1, q_l2, q_l3, q_l4, q_l5, q_l6, q_l8, q_negI, q_notS, q_okB, q_okI, q_nxO, q_nxS, q_mkNon, q_iteT, q_iteF, q_ofB, q_addI, q_subI, q_mulI, q_fdivI, q_modI, q_powI, q_addT, q_eqI, q_neI, q_ltI, q_leI, q_gtI, q_geI, q_eqB, q_neB, q_eqS, q_neS, q_isB, q_isnB, q_isN, q_isnN, q_truB, q_truI, q_isiI, q_isiB, q_isiS, q_isiT, q_isiN, q_lenT, q_gcd, q_abs, q_max, q_min, q_int, q_tupT, q_listT, q_ixT, q_ixL, q_at0, q_at1, q_at2, q_at3, q_at4, q_nm, q_tp, q_asn, q_asc, q_pn, q_pc, wp_bind, wp_ok, List.map_cons, List.map_nil, List.replicate, List.cons_append, List.nil_append, List.append_nil, List.getElem?_cons_zero, List.getElem?_cons_succ, List.set_cons_zero, List.set_cons_succ, List.length_cons, List.length_nil, if_true, if_false, Nat.reduceAdd, Nat.reduceSub, Nat.reduceLT, Nat.reduceLeDiff, Nat.zero_add, Nat.lt_add_one, Nat.zero_lt_succ, decide_true, decide_false, Bool.not_true, Bool.not_false, ne_eq, not_false_eq_true, not_true_eq_false, Int.reduceEq, Int.reduceNe, Int.reduceLT, Int.reduceLE, Int.reduceNeg, Int.reduceToNat, Nat.reducePow, Nat.reduceEqDiff, Bool.false_eq_true, Bool.true_eq_false, List.any_cons, List.any_nil, Bool.or_false, Bool.or_true, Bool.false_or, Bool.true_or, Ty.sub, Int.cast_ofNat_Int, Int.natCast_zero, Int.natCast_one, eq_self, List.length_map, e1, e2]
    exact keepP rfl take_self
def fMeanOf (c m : Nat) : Fn := ⟨1, 2, true, [.iff (.or [.not (.val (.isi (.slot 0) [.tuple])), .cmp .eq (.bi .len [.slot 0]) (.cst (.int 0))]) [.never] [], .loop (.nm 1) .seq [.slot 0] [.ex (.call c [.slot 1])], .ret (.call m [.slot 0])]⟩
theorem pure_pts : ∀ ps : List Pt, pureDs (ps.map pt) = true
  | [] => rfl
  | p :: ps => by
    show (pureD (pt p) && pureDs (ps.map pt)) = true
    rw [pure_pts ps]
    rfl
theorem meanOf_ok {f c mi k : Nat} (hf : T.fns[f]? = some (fMeanOf c mi)) {ps : List Pt} (hp : ∀ p ∈ ps, PF p ∧ PB 10 p) (h0 : 0 < ps.length) (hc : ∀ (lo : Nat) (S : Sto) (p : Pt), PF p → run T (n + k) c lo [pt p] S = .ok (pt p) S)
    (hm : ∀ (lo : Nat) (S : Sto), run T (n + k) mi lo [.tup (ps.map pt)] S = .ok (pt (meanF ps)) S) : run T (n + k + 1) f lo [.tup (ps.map pt)] S = .ok (pt (meanF ps)) S := by
  refine Wp.eq (wp_run hf rfl (wp_b ?_))
  have hn : ((ps.length : Nat) : Int) ≠ 0 := by omega
  simp only [q_slot, q_cst, q_glo, q_tup, q_lst, q_dic, q_bin, q_neg, q_not, q_cmp, q_ifx, q_isi, q_bi, q_call, q_idx, q_slc, q_append, q_extend, q_and, q_or, q_nil, q_cons, q_none, q_some, q_and1, q_and2, q_andT, q_andF, q_andB, q_or1, q_or2, q_orB, q_tval, q_tnot, q_tand, q_tor, q_tcmp, q_tand1, q_tand2, q_tor1, q_tor2, q_cnil, q_ccons, q_set, q_par, q_setix, q_ex, q_ret, q_retN, q_iff, q_pass, q_brk, q_cont, q_bnil, q_nextN, q_nextR, q_nextK, q_nextC, q_bok, q_getS, q_getO, q_t0, q_t1, q_t2, q_t3, q_t4, q_l0, q_l1, q_l2, q_l3, q_l4, q_l5, q_l6, q_l8, q_negI, q_notS, q_okB, q_okI, q_nxO, q_nxS, q_mkNon, q_iteT, q_iteF, q_ofB, q_addI, q_subI, q_mulI, q_fdivI, q_modI, q_powI, q_addT, q_eqI, q_neI, q_ltI, q_leI, q_gtI, q_geI, q_eqB, q_neB, q_eqS, q_neS, q_isB, q_isnB, q_isN, q_isnN, q_truB, q_truI, q_isiI, q_isiB, q_isiS, q_isiT, q_isiN, q_lenT, q_gcd, q_abs, q_max, q_min, q_int, q_tupT, q_listT, q_ixT, q_ixL, q_at0, q_at1, q_at2, q_at3, q_at4, q_nm, q_tp, q_asn, q_asc, q_pn, q_pc, wp_bind, wp_ok, List.map_cons, List.map_nil, List.replicate, List.cons_append, List.nil_append, List.append_nil, List.getElem?_cons_zero, List.getElem?_cons_succ, List.set_cons_zero, List.set_cons_succ, List.length_cons, List.length_nil, if_true, if_false, Nat.reduceAdd, Nat.reduceSub, Nat.reduceLT, Nat.reduceLeDiff, Nat.zero_add, Nat.lt_add_one, Nat.zero_lt_succ, decide_true, decide_false, Bool.not_true, Bool.not_false, ne_eq, not_false_eq_true, not_true_eq_false, Int.reduceEq, Int.reduceNe, Int.reduceLT, Int.reduceLE, Int.reduceNeg, Int.reduceToNat, Nat.reducePow, Nat.reduceEqDiff, Bool.false_eq_true, Bool.true_eq_false, List.any_cons, List.any_nil, Bool.or_false, Bool.or_true, Bool.false_or, Bool.true_or, Ty.sub, Int.cast_ofNat_Int, Int.natCast_zero, Int.natCast_one, eq_self, fMeanOf, List.length_map, hn]
  refine wp_b ?_
  rw [loop_tup (xs := ps.map pt) rfl]
  refine (tup_inv (xs := ps.map pt) (fun i σ S' => S' = S ∧ ∃ x, σ = [some (.tup (ps.map pt)), x]) ?_ (ps.map pt).length 0 _ _ (by omega) ⟨rfl, none, rfl⟩).imp fun fl S' ⟨σ', e1, e2, x, e3⟩ => ?_
  · intro i σ S' hi ⟨e1, x, e2⟩
    subst e1 e2
    rw [List.length_map] at hi
    have hq := hp ps[i] (List.getElem_mem hi)
    rw [List.getElem_map]
    show Wp (evB _ [.ex (.call c [.slot 1])] [some (.tup (ps.map pt)), some (pt ps[i])] S') _
    refine wp_b ?_
    simp only [q_slot, q_cst, q_glo, q_tup, q_lst, q_dic, q_bin, q_neg, q_not, q_cmp, q_ifx, q_isi, q_bi, q_call, q_idx, q_slc, q_append, q_extend, q_and, q_or, q_nil, q_cons, q_none, q_some, q_and1, q_and2, q_andT, q_andF, q_andB, q_or1, q_or2, q_orB, q_tval, q_tnot, q_tand, q_tor, q_tcmp, q_tand1, q_tand2, q_tor1, q_tor2, q_cnil, q_ccons, q_set, q_par, q_setix, q_ex, q_ret, q_retN, q_iff, q_pass, q_brk, q_cont, q_bnil, q_nextN, q_nextR, q_nextK, q_nextC, q_bok, q_getS, q_getO, q_t0, q_t1, q_t2, q_t3, q_t4, q_l0, q_l1, q_l2, q_l3, q_l4, q_l5, q_l6, q_l8, q_negI, q_notS, q_okB, q_okI, q_nxO, q_nxS, q_mkNon, q_iteT, q_iteF, q_ofB, q_addI, q_subI, q_mulI, q_fdivI, q_modI, q_powI, q_addT, q_eqI, q_neI, q_ltI, q_leI, q_gtI, q_geI, q_eqB, q_neB, q_eqS, q_neS, q_isB, q_isnB, q_isN, q_isnN, q_truB, q_truI, q_isiI, q_isiB, q_isiS, q_isiT, q_isiN, q_lenT, q_gcd, q_abs, q_max, q_min, q_int, q_tupT, q_listT, q_ixT, q_ixL, q_at0, q_at1, q_at2, q_at3, q_at4, q_nm, q_tp, q_asn, q_asc, q_pn, q_pc, wp_bind, wp_ok, List.map_cons, List.map_nil, List.replicate, List.cons_append, List.nil_append, List.append_nil, List.getElem?_cons_zero, List.getElem?_cons_succ, List.set_cons_zero, List.set_cons_succ, List.length_cons, List.length_nil, if_true, if_false, Nat.reduceAdd, Nat.reduceSub, Nat.reduceLT, Nat.reduceLeDiff, Nat.zero_add, Nat.lt_add_one, Nat.zero_lt_succ, decide_true, decide_false, Bool.not_true, Bool.not_false, ne_eq, not_false_eq_true, not_true_eq_false, Int.reduceEq, Int.reduceNe, Int.reduceLT, Int.reduceLE, Int.reduceNeg, Int.reduceToNat, Nat.reducePow, Nat.reduceEqDiff, Bool.false_eq_true, Bool.true_eq_false, List.any_cons, List.any_nil, Bool.or_false, Bool.or_true, Bool.false_or, Bool.true_or, Ty.sub, Int.cast_ofNat_Int, Int.natCast_zero, Int.natCast_one, eq_self, hc _ S' _ hq.1]
    first | exact ⟨_, rfl, rfl, _, rfl⟩ | exact ⟨_, rfl, trivial, _, rfl⟩
  · subst e1 e2 e3
    simp only [q_slot, q_cst, q_glo, q_tup, q_lst, q_dic, q_bin, q_neg, q_not, q_cmp, q_ifx, q_isi, q_bi, q_call, q_idx, q_slc, q_append, q_extend, q_and, q_or, q_nil, q_cons, q_none, q_some, q_and1, q_and2, q_andT, q_andF, q_andB, q_or1, q_or2, q_orB, q_tval, q_tnot, q_tand, q_tor, q_tcmp, q_tand1, q_tand2, q_tor1, q_tor2, q_cnil, q_ccons, q_set, q_par, q_setix, q_ex, q_ret, q_retN, q_iff, q_pass, q_brk, q_cont, q_bnil, q_nextN, q_nextR, q_nextK, q_nextC, q_bok, q_getS, q_getO, q_t0, q_t1, q_t2, q_t3, q_t4, q_l0, q_l1, q_l2, q_l3, q_l4, q_l5, q_l6, q_l8, q_negI, q_notS, q_okB, q_okI, q_nxO, q_nxS, q_mkNon, q_iteT, q_iteF, q_ofB, q_addI, q_subI, q_mulI, q_fdivI, q_modI, q_powI, q_addT, q_eqI, q_neI, q_ltI, q_leI, q_gtI, q_geI, q_eqB, q_neB, q_eqS, q_neS, q_isB, q_isnB, q_isN, q_isnN, q_truB, q_truI, q_isiI, q_isiB, q_isiS, q_isiT, q_isiN, q_lenT, q_gcd, q_abs, q_max, q_min, q_int, q_tupT, q_listT, q_ixT, q_ixL, q_at0, q_at1, q_at2, q_at3, q_at4, q_nm, q_tp, q_asn, q_asc, q_pn, q_pc, wp_bind, wp_ok, List.map_cons, List.map_nil, List.replicate, List.cons_append, List.nil_append, List.append_nil, List.getElem?_cons_zero, List.getElem?_cons_succ, List.set_cons_zero, List.set_cons_succ, List.length_cons, List.length_nil, if_true, if_false, Nat.reduceAdd, Nat.reduceSub, Nat.reduceLT, Nat.reduceLeDiff, Nat.zero_add, Nat.lt_add_one, Nat.zero_lt_succ, decide_true, decide_false, Bool.not_true, Bool.not_false, ne_eq, not_false_eq_true, not_true_eq_false, Int.reduceEq, Int.reduceNe, Int.reduceLT, Int.reduceLE, Int.reduceNeg, Int.reduceToNat, Nat.reducePow, Nat.reduceEqDiff, Bool.false_eq_true, Bool.true_eq_false, List.any_cons, List.any_nil, Bool.or_false, Bool.or_true, Bool.false_or, Bool.true_or, Ty.sub, Int.cast_ofNat_Int, Int.natCast_zero, Int.natCast_one, eq_self]
    refine wp_b ?_
    simp only [q_slot, q_cst, q_glo, q_tup, q_lst, q_dic, q_bin, q_neg, q_not, q_cmp, q_ifx, q_isi, q_bi, q_call, q_idx, q_slc, q_append, q_extend, q_and, q_or, q_nil, q_cons, q_none, q_some, q_and1, q_and2, q_andT, q_andF, q_andB, q_or1, q_or2, q_orB, q_tval, q_tnot, q_tand, q_tor, q_tcmp, q_tand1, q_tand2, q_tor1, q_tor2, q_cnil, q_ccons, q_set, q_par, q_setix, q_ex, q_ret, q_retN, q_iff, q_pass, q_brk, q_cont, q_bnil, q_nextN, q_nextR, q_nextK, q_nextC, q_bok, q_getS, q_getO, q_t0, q_t1, q_t2, q_t3, q_t4, q_l0, q_l1, q_l2, q_l3, q_l4, q_l5, q_l6, q_l8, q_negI, q_notS, q_okB, q_okI, q_nxO, q_nxS, q_mkNon, q_iteT, q_iteF, q_ofB, q_addI, q_subI, q_mulI, q_fdivI, q_modI, q_powI, q_addT, q_eqI, q_neI, q_ltI, q_leI, q_gtI, q_geI, q_eqB, q_neB, q_eqS, q_neS, q_isB, q_isnB, q_isN, q_isnN, q_truB, q_truI, q_isiI, q_isiB, q_isiS, q_isiT, q_isiN, q_lenT, q_gcd, q_abs, q_max, q_min, q_int, q_tupT, q_listT, q_ixT, q_ixL, q_at0, q_at1, q_at2, q_at3, q_at4, q_nm, q_tp, q_asn, q_asc, q_pn, q_pc, wp_bind, wp_ok, List.map_cons, List.map_nil, List.replicate, List.cons_append, List.nil_append, List.append_nil, List.getElem?_cons_zero, List.getElem?_cons_succ, List.set_cons_zero, List.set_cons_succ, List.length_cons, List.length_nil, if_true, if_false, Nat.reduceAdd, Nat.reduceSub, Nat.reduceLT, Nat.reduceLeDiff, Nat.zero_add, Nat.lt_add_one, Nat.zero_lt_succ, decide_true, decide_false, Bool.not_true, Bool.not_false, ne_eq, not_false_eq_true, not_true_eq_false, Int.reduceEq, Int.reduceNe, Int.reduceLT, Int.reduceLE, Int.reduceNeg, Int.reduceToNat, Nat.reducePow, Nat.reduceEqDiff, Bool.false_eq_true, Bool.true_eq_false, List.any_cons, List.any_nil, Bool.or_false, Bool.or_true, Bool.false_or, Bool.true_or, Ty.sub, Int.cast_ofNat_Int, Int.natCast_zero, Int.natCast_one, eq_self, hm]
    exact keepP rfl take_self
end
/-! ### points as pairs of rational numbers -/
def vx (p : Pt) : Rat := val p.1
def vy (p : Pt) : Rat := val p.2
theorem pt_inj {p q : Pt} (hp : PF p) (hq : PF q) (h : vx p = vx q) (g : vy p = vy q) : p = q := by
  obtain ⟨a, b⟩ := p
  obtain ⟨c, d⟩ := q
  have h1 : a = c := val_inj hp.1 hq.1 h
  have h2 : b = d := val_inj hp.2 hq.2 g
  rw [h1, h2]
theorem val_gap {p q : Pt} (hp : PF p) (hq : PF q) : val (gapF p q) = (vx p - vx q) * (vx p - vx q) + (vy p - vy q) * (vy p - vy q) := by
  have a := sub_fr hp.1 hq.1
  have b := sub_fr hp.2 hq.2
  unfold gapF dotF mapP vx vy
  dsimp only
  rw [val_add (mul_fr a a).ne (mul_fr b b).ne, val_mul a.ne a.ne, val_mul b.ne b.ne, val_sub hp.1.ne hq.1.ne, val_sub hp.2.ne hq.2.ne]
theorem gap_fr {p q : Pt} (hp : PF p) (hq : PF q) : Fr (gapF p q) := add_fr (mul_fr (sub_fr hp.1 hq.1) (sub_fr hp.1 hq.1)) (mul_fr (sub_fr hp.2 hq.2) (sub_fr hp.2 hq.2))
theorem gap_comm {p q : Pt} (hp : PF p) (hq : PF q) : gapF q p = gapF p q := by
  refine val_inj (gap_fr hq hp) (gap_fr hp hq) ?_
  rw [val_gap hp hq, val_gap hq hp]
  grind
theorem sq_nonneg (a : Rat) : 0 ≤ a * a := by
  rcases (Rat.le_total : (0 : Rat) ≤ a ∨ a ≤ 0) with h | h
  · exact Rat.mul_nonneg h h
  · have : 0 ≤ -a := by grind
    have h2 := Rat.mul_nonneg this this
    grind
theorem gap_zero {p q : Pt} (hp : PF p) (hq : PF q) : decide (gapF p q = (0, 1)) = decide (p = q) := by
  have hv := val_gap hp hq
  have f01 : Fr (0, 1) := ⟨by decide, by decide +kernel⟩
  have v01 : val (0, 1) = 0 := rfl
  by_cases e : p = q
  · subst e
    rw [decide_eq_true rfl]
    refine decide_eq_true (val_inj (gap_fr hp hp) f01 ?_)
    rw [hv, v01]
    grind
  · rw [decide_eq_false e]
    refine decide_eq_false fun z => e ?_
    rw [z, v01] at hv
    have h1 := sq_nonneg (vx p - vx q)
    have h2 := sq_nonneg (vy p - vy q)
    have e1 : (vx p - vx q) * (vx p - vx q) = 0 := by grind
    have e2 : (vy p - vy q) * (vy p - vy q) = 0 := by grind
    refine pt_inj hp hq ?_ ?_
    · have := Rat.mul_eq_zero.mp e1
      grind
    · have := Rat.mul_eq_zero.mp e2
      grind
theorem mapS_f {p : Pt} {x : Int × Int} (hp : PF p) (hx : Fr x) : PF (mapS mulF p x) := ⟨mul_fr hp.1 hx, mul_fr hp.2 hx⟩
theorem mapP_f {p q : Pt} (hp : PF p) (hq : PF q) : PF (mapP addF p q) := ⟨add_fr hp.1 hq.1, add_fr hp.2 hq.2⟩
theorem gap_scale {p q : Pt} {x : Int × Int} (hp : PF p) (hq : PF q) (hx : Fr x) : gapF (mapS mulF p x) (mapS mulF q x) = mulF (gapF p q) (mulF x x) := by
  have h1 := mapS_f hp hx
  have h2 := mapS_f hq hx
  refine val_inj (gap_fr h1 h2) (mul_fr (gap_fr hp hq) (mul_fr hx hx)) ?_
  rw [val_gap h1 h2, val_mul (gap_fr hp hq).ne (mul_fr hx hx).ne, val_gap hp hq, val_mul hx.ne hx.ne]
  unfold vx vy mapS
  dsimp only
  rw [val_mul hp.1.ne hx.ne, val_mul hp.2.ne hx.ne, val_mul hq.1.ne hx.ne, val_mul hq.2.ne hx.ne]
  grind
/-- the mean times its number -/
theorem mean_back {p : Pt} {n : Int} (hp : PF p) (hn : 0 < n) : mapS mulF (mapS mulF p (1, n)) (n, 1) = p := by
  have f1 : Fr (1, n) := one_fr hn
  have f2 : Fr (n, 1) := ⟨Int.zero_lt_one, by unfold gcdI; simp⟩
  have h := mapS_f hp f1
  have key : ∀ {x : Int × Int}, Fr x → mulF (mulF x (1, n)) (n, 1) = x := fun {x} hx => by
    refine val_inj (mul_fr (mul_fr hx f1) f2) hx ?_
    rw [val_mul (mul_fr hx f1).ne f2.ne, val_mul hx.ne f1.ne]
    have := val_inv (a := n) (by omega)
    grind
  show (mulF (mulF p.1 (1, n)) (n, 1), mulF (mulF p.2 (1, n)) (n, 1)) = p
  rw [key hp.1, key hp.2]
end Pd
namespace K01
open PySem Pd
theorem hChkF : ChkF T 2 3 := chkF_ok (ff := 1) (ii := 0) rfl rfl rfl
theorem hChkP : ChkP T 8 4 := chkP_ok (g := 7) (f := 1) (ii := 0) rfl rfl rfl rfl
theorem hRed : RedF T 3 1 := redF_ok rfl
theorem hShare : RedF T 25 2 := share_ok (g := 24) rfl rfl
theorem hAdd : OpF T 4 2 3000 addF := opF_add (r := 3) rfl hRed
theorem hSub : OpF T 5 2 3000 subF := opF_sub (r := 3) rfl hRed
theorem hMul : OpF T 6 2 3000 mulF := opF_mul (r := 3) rfl hRed
theorem lAdd : OpF T 26 3 3000 addF := opF_add (r := 25) rfl hShare
theorem lSub : OpF T 27 3 3000 subF := opF_sub (r := 25) rfl hShare
theorem lMul : OpF T 28 3 3000 mulF := opF_mul (r := 25) rfl hShare
theorem hMixed : T.fns[20]? = some fMixed := rfl
theorem hBegin : T.fns[21]? = some fBegin := rfl
theorem hDraw : T.fns[22]? = some (fDraw 20) := rfl
theorem hOf : T.fns[23]? = some (fOf 22) := rfl
theorem hLike : T.fns[32]? = some fLike := rfl
section
variable {n lo : Nat} {S : Sto} {p q : Pt} {x : Int × Int}
theorem plus_ok (hp : PF p) (hq : PF q) (bp : PB 400 p) (bq : PB 400 q) : Pd.run T (n + 5) 16 lo [pt p, pt q] S = .ok (pt (mapP addF p q)) S :=
  ptOp_ok (m := 4) (c := 8) (o := 9) (c2 := 8) rfl (fun lo S => hChkP n lo S p hp) (fun lo S => hChkP n lo S q hq) (fun lo S => pair_ok (n := n + 1) (o := 4) (m := 2) rfl hAdd hp hq (bp.mono (by decide)) (bq.mono (by decide))) rfl
theorem times_ok (hp : PF p) (hx : Fr x) (bp : PB 400 p) (bx : Bf 400 x) : Pd.run T (n + 5) 17 lo [pt p, fr x] S = .ok (pt (mapS mulF p x)) S :=
  ptOp_ok (m := 4) (c := 8) (o := 11) (c2 := 2) rfl (fun lo S => hChkP n lo S p hp) (fun lo S => hChkF (n + 1) lo S x hx) (fun lo S => scl_ok (n := n + 1) (o := 6) (m := 2) rfl hMul hp hx (bp.mono (by decide)) (bx.mono (by decide))) rfl
theorem gapIn_ok (hp : PF p) (hq : PF q) (bp : PB 400 p) (bq : PB 400 q) : Pd.run T (n + 4) 13 lo [pt p, pt q] S = .ok (fr (gapF p q)) S :=
  gap_ok (n := n) (m := 3) (l := 10) (i := 12) rfl (fun n lo S p q hp hq bp bq => pair_ok (n := n) (o := 5) (m := 2) rfl hSub hp hq (bp.mono (by decide)) (bq.mono (by decide))) (fun n lo S p q hp hq bp bq => inner_ok (n := n) (a := 4) (m := 6) (d := 2) rfl hAdd hMul hp hq bp bq) hp hq bp bq
theorem squared_ok (hp : PF p) (hq : PF q) (bp : PB 400 p) (bq : PB 400 q) : Pd.run T (n + 5) 18 lo [pt p, pt q] S = .ok (fr (gapF p q)) S :=
  ptOp_ok (m := 4) (c := 8) (o := 13) (c2 := 8) rfl (fun lo S => hChkP n lo S p hp) (fun lo S => hChkP n lo S q hq) (fun lo S => gapIn_ok hp hq bp bq) rfl
theorem need_ok' (hp : PF p) : Pd.run T (n + 5) 15 lo [pt p] S = .ok (pt p) S := by
  refine Wp.eq (wp_run (fn := fNeed 8) rfl rfl (wp_b ?_))
  simp only [q_slot, q_cst, q_glo, q_tup, q_lst, q_dic, q_bin, q_neg, q_not, q_cmp, q_ifx, q_isi, q_bi, q_call, q_idx, q_slc, q_append, q_extend, q_and, q_or, q_nil, q_cons, q_none, q_some, q_and1, q_and2, q_andT, q_andF, q_andB, q_or1, q_or2, q_orB, q_tval, q_tnot, q_tand, q_tor, q_tcmp, q_tand1, q_tand2, q_tor1, q_tor2, q_cnil, q_ccons, q_set, q_par, q_setix, q_ex, q_ret, q_retN, q_iff, q_pass, q_brk, q_cont, q_bnil, q_nextN, q_nextR, q_nextK, q_nextC, q_bok, q_getS, q_getO, q_t0, q_t1, q_t2, q_t3, q_t4, q_l0, q_l1, q_l2, q_l3, q_l4, q_l5, q_l6, q_l8, q_negI, q_notS, q_okB, q_okI, q_nxO, q_nxS, q_mkNon, q_iteT, q_iteF, q_ofB, q_addI, q_subI, q_mulI, q_fdivI, q_modI, q_powI, q_addT, q_eqI, q_neI, q_ltI, q_leI, q_gtI, q_geI, q_eqB, q_neB, q_eqS, q_neS, q_isB, q_isnB, q_isN, q_isnN, q_truB, q_truI, q_isiI, q_isiB, q_isiS, q_isiT, q_isiN, q_lenT, q_gcd, q_abs, q_max, q_min, q_int, q_tupT, q_listT, q_ixT, q_ixL, q_at0, q_at1, q_at2, q_at3, q_at4, q_nm, q_tp, q_asn, q_asc, q_pn, q_pc, wp_bind, wp_ok, List.map_cons, List.map_nil, List.replicate, List.cons_append, List.nil_append, List.append_nil, List.getElem?_cons_zero, List.getElem?_cons_succ, List.set_cons_zero, List.set_cons_succ, List.length_cons, List.length_nil, if_true, if_false, Nat.reduceAdd, Nat.reduceSub, Nat.reduceLT, Nat.reduceLeDiff, Nat.zero_add, Nat.lt_add_one, Nat.zero_lt_succ, decide_true, decide_false, Bool.not_true, Bool.not_false, ne_eq, not_false_eq_true, not_true_eq_false, Int.reduceEq, Int.reduceNe, Int.reduceLT, Int.reduceLE, Int.reduceNeg, Int.reduceToNat, Nat.reducePow, Nat.reduceEqDiff, Bool.false_eq_true, Bool.true_eq_false, List.any_cons, List.any_nil, Bool.or_false, Bool.or_true, Bool.false_or, Bool.true_or, Ty.sub, Int.cast_ofNat_Int, Int.natCast_zero, Int.natCast_one, eq_self, fNeed, hChkP n _ S p hp]
  exact keepP rfl take_self
theorem meanIn_ok {ps : List Pt} (hp : ∀ p ∈ ps, PF p ∧ PB 10 p) (h0 : 0 < ps.length) (h1 : ps.length ≤ 20) : Pd.run T (n + 4) 14 lo [.tup (ps.map pt)] S = .ok (pt (meanF ps)) S :=
  mean_ok (n := n) (m := 3) (g := 0) (s := 9) (sc := 11) (r := 3) rfl rfl (fun n lo S p q hp hq bp bq => pair_ok (n := n) (o := 4) (m := 2) rfl hAdd hp hq (bp.mono (by decide)) (bq.mono (by decide)))
    (fun n lo S p x hp hx bp bx => scl_ok (n := n) (o := 6) (m := 2) rfl hMul hp hx (bp.mono (by decide)) (bx.mono (by decide))) (fun n lo S a b h1 h2 h3 => hRed (n + 2) lo S a b h1 h2 h3) hp h0 h1
theorem mean_ok' {ps : List Pt} (hp : ∀ p ∈ ps, PF p ∧ PB 10 p) (h0 : 0 < ps.length) (h1 : ps.length ≤ 20) : Pd.run T (n + 5) 19 lo [.tup (ps.map pt)] S = .ok (pt (meanF ps)) S :=
  meanOf_ok (n := n) (k := 4) (c := 8) (mi := 14) rfl hp h0 (fun lo S p h => hChkP n lo S p h) (fun lo S => meanIn_ok hp h0 h1)
theorem lplus_ok (hp : PF p) (hq : PF q) (bp : PB 3000 p) (bq : PB 3000 q) : Pd.run T (n + 4) 29 lo [pt p, pt q] S = .ok (pt (mapP addF p q)) S := pair_ok (n := n) (o := 26) (m := 3) rfl lAdd hp hq bp bq
theorem ltimes_ok (hp : PF p) (hx : Fr x) (bp : PB 3000 p) (bx : Bf 3000 x) : Pd.run T (n + 4) 30 lo [pt p, fr x] S = .ok (pt (mapS mulF p x)) S := scl_ok (n := n) (o := 28) (m := 3) rfl lMul hp hx bp bx
theorem apart_ok (hp : PF p) (hq : PF q) (bp : PB 400 p) (bq : PB 400 q) : Pd.run T (n + 4) 31 lo [pt p, pt q] S = .ok (fr (gapF p q)) S := by
  refine Wp.eq (wp_run (n := n + 3) (fn := ⟨2, 4, true, b31⟩) rfl rfl (wp_b ?_))
  have h1 := sub_fr hp.1 hq.1
  have h2 := sub_fr hp.2 hq.2
  have c1 : Bf 801 (subF p.1 q.1) := bf_sub hp.1 hq.1 bp.1 bq.1
  have c2 : Bf 801 (subF p.2 q.2) := bf_sub hp.2 hq.2 bp.2 bq.2
  have d1 := bfM h1 h1 c1 c1
  have d2 := bfM h2 h2 c2 c2
  have e1 := fun lo => lSub n lo S p.1 q.1 hp.1 hq.1 (bp.1.mono (by decide)) (bq.1.mono (by decide))
  have e2 := fun lo => lSub n lo S p.2 q.2 hp.2 hq.2 (bp.2.mono (by decide)) (bq.2.mono (by decide))
  have e3 := fun lo => lMul n lo S _ _ h1 h1 (c1.mono (by decide)) (c1.mono (by decide))
  have e4 := fun lo => lMul n lo S _ _ h2 h2 (c2.mono (by decide)) (c2.mono (by decide))
  have e5 := fun lo => lAdd n lo S _ _ (mul_fr h1 h1) (mul_fr h2 h2) (d1.mono (by decide)) (d2.mono (by decide))
  simp only [q_slot, q_cst, q_glo, q_tup, q_lst, q_dic, q_bin, q_neg, q_not, q_cmp, q_ifx, q_isi, q_bi, q_call, q_idx, q_slc, q_append, q_extend, q_and, q_or, q_nil, q_cons, q_none, q_some, q_and1, q_and2, q_andT, q_andF, q_andB, q_or1, q_or2, q_orB, q_tval, q_tnot, q_tand, q_tor, q_tcmp, q_tand1, q_tand2, q_tor1, q_tor2, q_cnil, q_ccons, q_set, q_par, q_setix, q_ex, q_ret, q_retN, q_iff, q_pass, q_brk, q_cont, q_bnil, q_nextN, q_nextR, q_nextK, q_nextC, q_bok, q_getS, q_getO, q_t0, q_t1, q_t2, q_t3, q_t4, q_l0, q_l1, q_l2, q_l3, q_l4, q_l5, q_l6, q_l8, q_negI, q_notS, q_okB, q_okI, q_nxO, q_nxS, q_mkNon, q_iteT, q_iteF, q_ofB, q_addI, q_subI, q_mulI, q_fdivI, q_modI, q_powI, q_addT, q_eqI, q_neI, q_ltI, q_leI, q_gtI, q_geI, q_eqB, q_neB, q_eqS, q_neS, q_isB, q_isnB, q_isN, q_isnN, q_truB, q_truI, q_isiI, q_isiB, q_isiS, q_isiT, q_isiN, q_lenT, q_gcd, q_abs, q_max, q_min, q_int, q_tupT, q_listT, q_ixT, q_ixL, q_at0, q_at1, q_at2, q_at3, q_at4, q_nm, q_tp, q_asn, q_asc, q_pn, q_pc, wp_bind, wp_ok, List.map_cons, List.map_nil, List.replicate, List.cons_append, List.nil_append, List.append_nil, List.getElem?_cons_zero, List.getElem?_cons_succ, List.set_cons_zero, List.set_cons_succ, List.length_cons, List.length_nil, if_true, if_false, Nat.reduceAdd, Nat.reduceSub, Nat.reduceLT, Nat.reduceLeDiff, Nat.zero_add, Nat.lt_add_one, Nat.zero_lt_succ, decide_true, decide_false, Bool.not_true, Bool.not_false, ne_eq, not_false_eq_true, not_true_eq_false, Int.reduceEq, Int.reduceNe, Int.reduceLT, Int.reduceLE, Int.reduceNeg, Int.reduceToNat, Nat.reducePow, Nat.reduceEqDiff, Bool.false_eq_true, Bool.true_eq_false, List.any_cons, List.any_nil, Bool.or_false, Bool.or_true, Bool.false_or, Bool.true_or, Ty.sub, Int.cast_ofNat_Int, Int.natCast_zero, Int.natCast_one, eq_self, pt0, pt1, e1, e2]
  refine wp_b ?_
  simp only [q_slot, q_cst, q_glo, q_tup, q_lst, q_dic, q_bin, q_neg, q_not, q_cmp, q_ifx, q_isi, q_bi, q_call, q_idx, q_slc, q_append, q_extend, q_and, q_or, q_nil, q_cons, q_none, q_some, q_and1, q_and2, q_andT, q_andF, q_andB, q_or1, q_or2, q_orB, q_tval, q_tnot, q_tand, q_tor, q_tcmp, q_tand1, q_tand2, q_tor1, q_tor2, q_cnil, q_ccons, q_set, q_par, q_setix, q_ex, q_ret, q_retN, q_iff, q_pass, q_brk, q_cont, q_bnil, q_nextN, q_nextR, q_nextK, q_nextC, q_bok, q_getS, q_getO, q_t0, q_t1, q_t2, q_t3, q_t4, q_l0, q_l1, q_l2, q_l3, q_l4, q_l5, q_l6, q_l8, q_negI, q_notS, q_okB, q_okI, q_nxO, q_nxS, q_mkNon, q_iteT, q_iteF, q_ofB, q_addI, q_subI, q_mulI, q_fdivI, q_modI, q_powI, q_addT, q_eqI, q_neI, q_ltI, q_leI, q_gtI, q_geI, q_eqB, q_neB, q_eqS, q_neS, q_isB, q_isnB, q_isN, q_isnN, q_truB, q_truI, q_isiI, q_isiB, q_isiS, q_isiT, q_isiN, q_lenT, q_gcd, q_abs, q_max, q_min, q_int, q_tupT, q_listT, q_ixT, q_ixL, q_at0, q_at1, q_at2, q_at3, q_at4, q_nm, q_tp, q_asn, q_asc, q_pn, q_pc, wp_bind, wp_ok, List.map_cons, List.map_nil, List.replicate, List.cons_append, List.nil_append, List.append_nil, List.getElem?_cons_zero, List.getElem?_cons_succ, List.set_cons_zero, List.set_cons_succ, List.length_cons, List.length_nil, if_true, if_false, Nat.reduceAdd, Nat.reduceSub, Nat.reduceLT, Nat.reduceLeDiff, Nat.zero_add, Nat.lt_add_one, Nat.zero_lt_succ, decide_true, decide_false, Bool.not_true, Bool.not_false, ne_eq, not_false_eq_true, not_true_eq_false, Int.reduceEq, Int.reduceNe, Int.reduceLT, Int.reduceLE, Int.reduceNeg, Int.reduceToNat, Nat.reducePow, Nat.reduceEqDiff, Bool.false_eq_true, Bool.true_eq_false, List.any_cons, List.any_nil, Bool.or_false, Bool.or_true, Bool.false_or, Bool.true_or, Ty.sub, Int.cast_ofNat_Int, Int.natCast_zero, Int.natCast_one, eq_self, e3, e4, e5]
  exact keepP rfl take_self
end
/-! ### what is drawn -/
theorem app_at {b : Bs} {R R2 : Sto} {xs : List D} {d : D} (h : xs.length < sizeLine) : appendD 0 (.ref (5 + R.length)) d (b.sto ++ (R ++ .lst xs :: R2)) = .ok .non (b.sto ++ (R ++ .lst (xs ++ [d]) :: R2)) := by
  have e : (b.sto ++ (R ++ SO.lst xs :: R2))[5 + R.length]? = some (.lst xs) := by
    rw [List.getElem?_append_right (show b.sto.length ≤ 5 + R.length from Nat.le_add_right 5 _), show 5 + R.length - b.sto.length = R.length from Nat.add_sub_cancel_left 5 _, List.getElem?_append_right (Nat.le_refl _), Nat.sub_self]
    rfl
  unfold appendD
  dsimp only
  rw [e]
  dsimp only
  rw [if_pos h]
  unfold write
  rw [if_pos (Nat.zero_le _)]
  dsimp only
  rw [List.set_append_right _ _ (show b.sto.length ≤ 5 + R.length from Nat.le_add_right 5 _), show 5 + R.length - b.sto.length = R.length from Nat.add_sub_cancel_left 5 _, List.set_append_right _ _ (Nat.le_refl _), Nat.sub_self]
  rfl
theorem isL_at {b : Bs} {R R2 : Sto} {xs : List D} : isL (b.sto ++ (R ++ .lst xs :: R2)) (.ref (5 + R.length)) = true := by
  have e : (b.sto ++ (R ++ SO.lst xs :: R2))[5 + R.length]? = some (.lst xs) := by
    rw [List.getElem?_append_right (show b.sto.length ≤ 5 + R.length from Nat.le_add_right 5 _), show 5 + R.length - b.sto.length = R.length from Nat.add_sub_cancel_left 5 _, List.getElem?_append_right (Nat.le_refl _), Nat.sub_self]
    rfl
  unfold isL
  dsimp only
  rw [e]
theorem items_at {b : Bs} {R R2 : Sto} {xs : List D} : items (b.sto ++ (R ++ .lst xs :: R2)) (.ref (5 + R.length)) = some xs := by
  have e : (b.sto ++ (R ++ SO.lst xs :: R2))[5 + R.length]? = some (.lst xs) := by
    rw [List.getElem?_append_right (show b.sto.length ≤ 5 + R.length from Nat.le_add_right 5 _), show 5 + R.length - b.sto.length = R.length from Nat.add_sub_cancel_left 5 _, List.getElem?_append_right (Nat.le_refl _), Nat.sub_self]
    rfl
  exact items_get e
theorem sto_len {b : Bs} {R : Sto} : (b.sto ++ R).length = 5 + R.length := by rw [List.length_append]; rfl
theorem drawn_ok {n : Nat} {R : Sto} {b : Bs} (hb : b.ok) (ht : b.t < 2 ^ 59) : Wp (Pd.run T (n + 4) 33 0 [.ref 3] (b.sto ++ R)) fun d S' => ∃ (p : Pt) (b' : Bs) (R' : Sto), d = pt p ∧ PF p ∧ PB 10 p ∧ S' = b'.sto ++ (R ++ R') ∧ b'.ok ∧ b'.t = b.t + 4 := by
  refine wp_run (fn := ⟨1, 3, false, b33⟩) rfl rfl (wp_b ?_)
  simp only [q_slot, q_cst, q_glo, q_tup, q_lst, q_dic, q_bin, q_neg, q_not, q_cmp, q_ifx, q_isi, q_bi, q_call, q_idx, q_slc, q_append, q_extend, q_and, q_or, q_nil, q_cons, q_none, q_some, q_and1, q_and2, q_andT, q_andF, q_andB, q_or1, q_or2, q_orB, q_tval, q_tnot, q_tand, q_tor, q_tcmp, q_tand1, q_tand2, q_tor1, q_tor2, q_cnil, q_ccons, q_set, q_par, q_setix, q_ex, q_ret, q_retN, q_iff, q_pass, q_brk, q_cont, q_bnil, q_nextN, q_nextR, q_nextK, q_nextC, q_bok, q_getS, q_getO, q_t0, q_t1, q_t2, q_t3, q_t4, q_l0, q_l1, q_l2, q_l3, q_l4, q_l5, q_l6, q_l8, q_negI, q_notS, q_okB, q_okI, q_nxO, q_nxS, q_mkNon, q_iteT, q_iteF, q_ofB, q_addI, q_subI, q_mulI, q_fdivI, q_modI, q_powI, q_addT, q_eqI, q_neI, q_ltI, q_leI, q_gtI, q_geI, q_eqB, q_neB, q_eqS, q_neS, q_isB, q_isnB, q_isN, q_isnN, q_truB, q_truI, q_isiI, q_isiB, q_isiS, q_isiT, q_isiN, q_lenT, q_gcd, q_abs, q_max, q_min, q_int, q_tupT, q_listT, q_ixT, q_ixL, q_at0, q_at1, q_at2, q_at3, q_at4, q_nm, q_tp, q_asn, q_asc, q_pn, q_pc, wp_bind, wp_ok, List.map_cons, List.map_nil, List.replicate, List.cons_append, List.nil_append, List.append_nil, List.getElem?_cons_zero, List.getElem?_cons_succ, List.set_cons_zero, List.set_cons_succ, List.length_cons, List.length_nil, if_true, if_false, Nat.reduceAdd, Nat.reduceSub, Nat.reduceLT, Nat.reduceLeDiff, Nat.zero_add, Nat.lt_add_one, Nat.zero_lt_succ, decide_true, decide_false, Bool.not_true, Bool.not_false, ne_eq, not_false_eq_true, not_true_eq_false, Int.reduceEq, Int.reduceNe, Int.reduceLT, Int.reduceLE, Int.reduceNeg, Int.reduceToNat, Nat.reducePow, Nat.reduceEqDiff, Bool.false_eq_true, Bool.true_eq_false, List.any_cons, List.any_nil, Bool.or_false, Bool.or_true, Bool.false_or, Bool.true_or, Ty.sub, Int.cast_ofNat_Int, Int.natCast_zero, Int.natCast_one, eq_self, sto_len]
  refine wp_b ?_
  rw [loop_rng (by decide)]
  refine (rng_inv (m := 2) (fun i σ S => ∃ (c : Bs) (fs : List (Int × Int)) (R2 : Sto) (x : Option D), c.ok ∧ c.t = b.t + 2 * i ∧ fs.length = i ∧ (∀ f ∈ fs, Fr f ∧ Bf 10 f) ∧ S = c.sto ++ (R ++ .lst (fs.map fr) :: R2) ∧ σ = [some (.ref 3), some (.ref (5 + R.length)), x]) ?_ 2 0 _ _ rfl
    ⟨b, [], [], none, hb, by omega, rfl, (fun _ h => by cases h), List.append_assoc _ _ _, rfl⟩).imp fun fl S' ⟨σ', e1, c, fs, R2, x, c1, c2, c3, c4, e2, e3⟩ => ?_
  · intro i σ S hi ⟨c, fs, R2, x, c1, c2, c3, c4, e2, e3⟩
    subst e2 e3
    show Wp (evB _ [.ex (.append (.slot 1) (.call 25 [.bin .sub (.call 22 [.slot 0, .cst (.int 41)]) (.cst (.int 20)), .call 23 [.slot 0, .lst [.cst (.int 1), .cst (.int 1), .cst (.int 2), .cst (.int 3), .cst (.int 7), .cst (.int 12)]]]))] [some (.ref 3), some (.ref (5 + R.length)), some (.int (0 + (i : Int)))] (c.sto ++ (R ++ .lst (fs.map fr) :: R2))) _
    refine wp_b ?_
    simp only [q_slot, q_cst, q_glo, q_tup, q_lst, q_dic, q_bin, q_neg, q_not, q_cmp, q_ifx, q_isi, q_bi, q_call, q_idx, q_slc, q_append, q_extend, q_and, q_or, q_nil, q_cons, q_none, q_some, q_and1, q_and2, q_andT, q_andF, q_andB, q_or1, q_or2, q_orB, q_tval, q_tnot, q_tand, q_tor, q_tcmp, q_tand1, q_tand2, q_tor1, q_tor2, q_cnil, q_ccons, q_set, q_par, q_setix, q_ex, q_ret, q_retN, q_iff, q_pass, q_brk, q_cont, q_bnil, q_nextN, q_nextR, q_nextK, q_nextC, q_bok, q_getS, q_getO, q_t0, q_t1, q_t2, q_t3, q_t4, q_l0, q_l1, q_l2, q_l3, q_l4, q_l5, q_l6, q_l8, q_negI, q_notS, q_okB, q_okI, q_nxO, q_nxS, q_mkNon, q_iteT, q_iteF, q_ofB, q_addI, q_subI, q_mulI, q_fdivI, q_modI, q_powI, q_addT, q_eqI, q_neI, q_ltI, q_leI, q_gtI, q_geI, q_eqB, q_neB, q_eqS, q_neS, q_isB, q_isnB, q_isN, q_isnN, q_truB, q_truI, q_isiI, q_isiB, q_isiS, q_isiT, q_isiN, q_lenT, q_gcd, q_abs, q_max, q_min, q_int, q_tupT, q_listT, q_ixT, q_ixL, q_at0, q_at1, q_at2, q_at3, q_at4, q_nm, q_tp, q_asn, q_asc, q_pn, q_pc, wp_bind, wp_ok, List.map_cons, List.map_nil, List.replicate, List.cons_append, List.nil_append, List.append_nil, List.getElem?_cons_zero, List.getElem?_cons_succ, List.set_cons_zero, List.set_cons_succ, List.length_cons, List.length_nil, if_true, if_false, Nat.reduceAdd, Nat.reduceSub, Nat.reduceLT, Nat.reduceLeDiff, Nat.zero_add, Nat.lt_add_one, Nat.zero_lt_succ, decide_true, decide_false, Bool.not_true, Bool.not_false, ne_eq, not_false_eq_true, not_true_eq_false, Int.reduceEq, Int.reduceNe, Int.reduceLT, Int.reduceLE, Int.reduceNeg, Int.reduceToNat, Nat.reducePow, Nat.reduceEqDiff, Bool.false_eq_true, Bool.true_eq_false, List.any_cons, List.any_nil, Bool.or_false, Bool.or_true, Bool.false_or, Bool.true_or, Ty.sub, Int.cast_ofNat_Int, Int.natCast_zero, Int.natCast_one, eq_self, isL_at]
    refine (draw_ok hDraw hMixed c1 (by omega) (by decide) (.c rfl)).imp fun d S' ⟨v, c', e1, v0, v1, e2, k1, k2⟩ => ?_
    subst e1 e2
    simp only [q_slot, q_cst, q_glo, q_tup, q_lst, q_dic, q_bin, q_neg, q_not, q_cmp, q_ifx, q_isi, q_bi, q_call, q_idx, q_slc, q_append, q_extend, q_and, q_or, q_nil, q_cons, q_none, q_some, q_and1, q_and2, q_andT, q_andF, q_andB, q_or1, q_or2, q_orB, q_tval, q_tnot, q_tand, q_tor, q_tcmp, q_tand1, q_tand2, q_tor1, q_tor2, q_cnil, q_ccons, q_set, q_par, q_setix, q_ex, q_ret, q_retN, q_iff, q_pass, q_brk, q_cont, q_bnil, q_nextN, q_nextR, q_nextK, q_nextC, q_bok, q_getS, q_getO, q_t0, q_t1, q_t2, q_t3, q_t4, q_l0, q_l1, q_l2, q_l3, q_l4, q_l5, q_l6, q_l8, q_negI, q_notS, q_okB, q_okI, q_nxO, q_nxS, q_mkNon, q_iteT, q_iteF, q_ofB, q_addI, q_subI, q_mulI, q_fdivI, q_modI, q_powI, q_addT, q_eqI, q_neI, q_ltI, q_leI, q_gtI, q_geI, q_eqB, q_neB, q_eqS, q_neS, q_isB, q_isnB, q_isN, q_isnN, q_truB, q_truI, q_isiI, q_isiB, q_isiS, q_isiT, q_isiN, q_lenT, q_gcd, q_abs, q_max, q_min, q_int, q_tupT, q_listT, q_ixT, q_ixL, q_at0, q_at1, q_at2, q_at3, q_at4, q_nm, q_tp, q_asn, q_asc, q_pn, q_pc, wp_bind, wp_ok, List.map_cons, List.map_nil, List.replicate, List.cons_append, List.nil_append, List.append_nil, List.getElem?_cons_zero, List.getElem?_cons_succ, List.set_cons_zero, List.set_cons_succ, List.length_cons, List.length_nil, if_true, if_false, Nat.reduceAdd, Nat.reduceSub, Nat.reduceLT, Nat.reduceLeDiff, Nat.zero_add, Nat.lt_add_one, Nat.zero_lt_succ, decide_true, decide_false, Bool.not_true, Bool.not_false, ne_eq, not_false_eq_true, not_true_eq_false, Int.reduceEq, Int.reduceNe, Int.reduceLT, Int.reduceLE, Int.reduceNeg, Int.reduceToNat, Nat.reducePow, Nat.reduceEqDiff, Bool.false_eq_true, Bool.true_eq_false, List.any_cons, List.any_nil, Bool.or_false, Bool.or_true, Bool.false_or, Bool.true_or, Ty.sub, Int.cast_ofNat_Int, Int.natCast_zero, Int.natCast_one, eq_self, List.append_assoc]
    have hx : ∀ b' : Bs, items (b'.sto ++ (R ++ SO.lst (List.map fr fs) :: (R2 ++ [SO.lst [D.int 1, D.int 1, D.int 2, D.int 3, D.int 7, D.int 12]]))) (.ref (List.length (c'.sto ++ (R ++ SO.lst (List.map fr fs) :: R2)))) = some [D.int 1, D.int 1, D.int 2, D.int 3, D.int 7, D.int 12] := fun b' => by
      have h := items_new (b := c') (b' := b') (R := R ++ SO.lst (List.map fr fs) :: R2) (xs := [D.int 1, D.int 1, D.int 2, D.int 3, D.int 7, D.int 12])
      rw [List.append_assoc, List.cons_append] at h
      exact h
    refine (of_ok hOf hDraw hMixed k1 (by omega) hx (by decide) (by decide)).imp fun d S' ⟨hd, c'', e1, k3, k4⟩ => ?_
    subst e1
    obtain ⟨w, rfl, w1, w2⟩ : ∃ w : Int, d = .int w ∧ 1 ≤ w ∧ w ≤ 12 := by
      simp only [List.mem_cons, List.not_mem_nil, or_false] at hd
      rcases hd with rfl | rfl | rfl | rfl | rfl | rfl <;> exact ⟨_, rfl, by decide, by decide⟩
    have bv : Bt 10 (v - 20) := .of (by omega) (by omega)
    have bw : Bt 10 w := .of (by omega) (by omega)
    have hw : w ≠ 0 := by omega
    have e := fun lo S => hShare (n + 1) lo S (v - 20) w hw (bv.mono (by decide)) (bw.mono (by decide))
    simp only [q_slot, q_cst, q_glo, q_tup, q_lst, q_dic, q_bin, q_neg, q_not, q_cmp, q_ifx, q_isi, q_bi, q_call, q_idx, q_slc, q_append, q_extend, q_and, q_or, q_nil, q_cons, q_none, q_some, q_and1, q_and2, q_andT, q_andF, q_andB, q_or1, q_or2, q_orB, q_tval, q_tnot, q_tand, q_tor, q_tcmp, q_tand1, q_tand2, q_tor1, q_tor2, q_cnil, q_ccons, q_set, q_par, q_setix, q_ex, q_ret, q_retN, q_iff, q_pass, q_brk, q_cont, q_bnil, q_nextN, q_nextR, q_nextK, q_nextC, q_bok, q_getS, q_getO, q_t0, q_t1, q_t2, q_t3, q_t4, q_l0, q_l1, q_l2, q_l3, q_l4, q_l5, q_l6, q_l8, q_negI, q_notS, q_okB, q_okI, q_nxO, q_nxS, q_mkNon, q_iteT, q_iteF, q_ofB, q_addI, q_subI, q_mulI, q_fdivI, q_modI, q_powI, q_addT, q_eqI, q_neI, q_ltI, q_leI, q_gtI, q_geI, q_eqB, q_neB, q_eqS, q_neS, q_isB, q_isnB, q_isN, q_isnN, q_truB, q_truI, q_isiI, q_isiB, q_isiS, q_isiT, q_isiN, q_lenT, q_gcd, q_abs, q_max, q_min, q_int, q_tupT, q_listT, q_ixT, q_ixL, q_at0, q_at1, q_at2, q_at3, q_at4, q_nm, q_tp, q_asn, q_asc, q_pn, q_pc, wp_bind, wp_ok, List.map_cons, List.map_nil, List.replicate, List.cons_append, List.nil_append, List.append_nil, List.getElem?_cons_zero, List.getElem?_cons_succ, List.set_cons_zero, List.set_cons_succ, List.length_cons, List.length_nil, if_true, if_false, Nat.reduceAdd, Nat.reduceSub, Nat.reduceLT, Nat.reduceLeDiff, Nat.zero_add, Nat.lt_add_one, Nat.zero_lt_succ, decide_true, decide_false, Bool.not_true, Bool.not_false, ne_eq, not_false_eq_true, not_true_eq_false, Int.reduceEq, Int.reduceNe, Int.reduceLT, Int.reduceLE, Int.reduceNeg, Int.reduceToNat, Nat.reducePow, Nat.reduceEqDiff, Bool.false_eq_true, Bool.true_eq_false, List.any_cons, List.any_nil, Bool.or_false, Bool.or_true, Bool.false_or, Bool.true_or, Ty.sub, Int.cast_ofNat_Int, Int.natCast_zero, Int.natCast_one, eq_self, e, List.append_assoc, List.cons_append]
    have ea := app_at (b := c'') (R := R) (xs := fs.map fr) (d := fr (red (v - 20) w)) (R2 := R2 ++ [.lst [.int 1, .int 1, .int 2, .int 3, .int 7, .int 12]]) (by rw [List.length_map, sizeLine_eq]; omega)
    refine Wp.of ea ?_
    refine ⟨_, rfl, c'', fs ++ [red (v - 20) w], _, _, k3, by omega, by rw [List.length_append, c3]; rfl, ?_, by rw [List.map_append]; rfl, rfl⟩
    intro f hf
    rcases List.mem_append.mp hf with h | h
    · exact c4 f h
    · obtain rfl := List.mem_singleton.mp h
      exact ⟨red_fr hw, bf_red hw bv bw⟩
  · subst e1 e2 e3
    simp only [q_slot, q_cst, q_glo, q_tup, q_lst, q_dic, q_bin, q_neg, q_not, q_cmp, q_ifx, q_isi, q_bi, q_call, q_idx, q_slc, q_append, q_extend, q_and, q_or, q_nil, q_cons, q_none, q_some, q_and1, q_and2, q_andT, q_andF, q_andB, q_or1, q_or2, q_orB, q_tval, q_tnot, q_tand, q_tor, q_tcmp, q_tand1, q_tand2, q_tor1, q_tor2, q_cnil, q_ccons, q_set, q_par, q_setix, q_ex, q_ret, q_retN, q_iff, q_pass, q_brk, q_cont, q_bnil, q_nextN, q_nextR, q_nextK, q_nextC, q_bok, q_getS, q_getO, q_t0, q_t1, q_t2, q_t3, q_t4, q_l0, q_l1, q_l2, q_l3, q_l4, q_l5, q_l6, q_l8, q_negI, q_notS, q_okB, q_okI, q_nxO, q_nxS, q_mkNon, q_iteT, q_iteF, q_ofB, q_addI, q_subI, q_mulI, q_fdivI, q_modI, q_powI, q_addT, q_eqI, q_neI, q_ltI, q_leI, q_gtI, q_geI, q_eqB, q_neB, q_eqS, q_neS, q_isB, q_isnB, q_isN, q_isnN, q_truB, q_truI, q_isiI, q_isiB, q_isiS, q_isiT, q_isiN, q_lenT, q_gcd, q_abs, q_max, q_min, q_int, q_tupT, q_listT, q_ixT, q_ixL, q_at0, q_at1, q_at2, q_at3, q_at4, q_nm, q_tp, q_asn, q_asc, q_pn, q_pc, wp_bind, wp_ok, List.map_cons, List.map_nil, List.replicate, List.cons_append, List.nil_append, List.append_nil, List.getElem?_cons_zero, List.getElem?_cons_succ, List.set_cons_zero, List.set_cons_succ, List.length_cons, List.length_nil, if_true, if_false, Nat.reduceAdd, Nat.reduceSub, Nat.reduceLT, Nat.reduceLeDiff, Nat.zero_add, Nat.lt_add_one, Nat.zero_lt_succ, decide_true, decide_false, Bool.not_true, Bool.not_false, ne_eq, not_false_eq_true, not_true_eq_false, Int.reduceEq, Int.reduceNe, Int.reduceLT, Int.reduceLE, Int.reduceNeg, Int.reduceToNat, Nat.reducePow, Nat.reduceEqDiff, Bool.false_eq_true, Bool.true_eq_false, List.any_cons, List.any_nil, Bool.or_false, Bool.or_true, Bool.false_or, Bool.true_or, Ty.sub, Int.cast_ofNat_Int, Int.natCast_zero, Int.natCast_one, eq_self]
    refine wp_b ?_
    obtain ⟨f1, f2, rfl⟩ : ∃ f1 f2, fs = [f1, f2] := by
      match fs, c3 with
      | [f1, f2], _ => exact ⟨f1, f2, rfl⟩
    have et : bifn .tuple [.ref (5 + R.length)] (c.sto ++ (R ++ .lst ([f1, f2].map fr) :: R2)) = .ok (pt (f1, f2)) (c.sto ++ (R ++ .lst ([f1, f2].map fr) :: R2)) := by
      show bTuple [.ref (5 + R.length)] _ = _
      unfold bTuple
      dsimp only
      rw [items_at]
      rfl
    simp only [List.map_cons, List.map_nil] at et
    simp only [q_slot, q_cst, q_glo, q_tup, q_lst, q_dic, q_bin, q_neg, q_not, q_cmp, q_ifx, q_isi, q_bi, q_call, q_idx, q_slc, q_append, q_extend, q_and, q_or, q_nil, q_cons, q_none, q_some, q_and1, q_and2, q_andT, q_andF, q_andB, q_or1, q_or2, q_orB, q_tval, q_tnot, q_tand, q_tor, q_tcmp, q_tand1, q_tand2, q_tor1, q_tor2, q_cnil, q_ccons, q_set, q_par, q_setix, q_ex, q_ret, q_retN, q_iff, q_pass, q_brk, q_cont, q_bnil, q_nextN, q_nextR, q_nextK, q_nextC, q_bok, q_getS, q_getO, q_t0, q_t1, q_t2, q_t3, q_t4, q_l0, q_l1, q_l2, q_l3, q_l4, q_l5, q_l6, q_l8, q_negI, q_notS, q_okB, q_okI, q_nxO, q_nxS, q_mkNon, q_iteT, q_iteF, q_ofB, q_addI, q_subI, q_mulI, q_fdivI, q_modI, q_powI, q_addT, q_eqI, q_neI, q_ltI, q_leI, q_gtI, q_geI, q_eqB, q_neB, q_eqS, q_neS, q_isB, q_isnB, q_isN, q_isnN, q_truB, q_truI, q_isiI, q_isiB, q_isiS, q_isiT, q_isiN, q_lenT, q_gcd, q_abs, q_max, q_min, q_int, q_tupT, q_listT, q_ixT, q_ixL, q_at0, q_at1, q_at2, q_at3, q_at4, q_nm, q_tp, q_asn, q_asc, q_pn, q_pc, wp_bind, wp_ok, List.map_cons, List.map_nil, List.replicate, List.cons_append, List.nil_append, List.append_nil, List.getElem?_cons_zero, List.getElem?_cons_succ, List.set_cons_zero, List.set_cons_succ, List.length_cons, List.length_nil, if_true, if_false, Nat.reduceAdd, Nat.reduceSub, Nat.reduceLT, Nat.reduceLeDiff, Nat.zero_add, Nat.lt_add_one, Nat.zero_lt_succ, decide_true, decide_false, Bool.not_true, Bool.not_false, ne_eq, not_false_eq_true, not_true_eq_false, Int.reduceEq, Int.reduceNe, Int.reduceLT, Int.reduceLE, Int.reduceNeg, Int.reduceToNat, Nat.reducePow, Nat.reduceEqDiff, Bool.false_eq_true, Bool.true_eq_false, List.any_cons, List.any_nil, Bool.or_false, Bool.or_true, Bool.false_or, Bool.true_or, Ty.sub, Int.cast_ofNat_Int, Int.natCast_zero, Int.natCast_one, eq_self, et]
    have g1 := c4 f1 (by simp)
    have g2 := c4 f2 (by simp)
    exact wp_ok.mpr ⟨(f1, f2), c, _, rfl, ⟨g1.1, g2.1⟩, ⟨g1.2, g2.2⟩, rfl, c1, by omega⟩
end K01
namespace Pd
open PySem
theorem lc_rng {lo : Int} {m n : Nat} {f : D → Sto → Out (Option D)} (I : Nat → List D → Sto → Prop) (hm : m ≤ sizeLine) (hlen : ∀ i acc S, I i acc S → acc.length = i)
    (step : ∀ i acc S, i < m → I i acc S → Wp (f (.int (lo + (i : Int))) S) fun y S' => ∃ d, y = some d ∧ S'[n]? = some (.lst acc) ∧ I (i + 1) (acc ++ [d]) (S'.set n (.lst (acc ++ [d])))) :
    ∀ (k i : Nat) (acc : List D) (S : Sto), i + k = m → I i acc S → Wp (lcL (.rng lo m) n f (k + 1) i S) fun d S' => d = .ref n ∧ ∃ acc, I m acc S'
  | 0, i, acc, S, h, h0 => by
    have hi : i = m := by omega
    subst hi
    refine Wp.of (a := .ref n) (S := S) ?_ ⟨rfl, acc, h0⟩
    unfold lcL
    have : Src.item S (.rng lo i) i = some none := by unfold Src.item; rw [if_neg (by omega)]
    rw [this]
  | k + 1, i, acc, S, h, h0 => by
    have e : lcL (.rng lo m) n f (k + 2) i S = (f (.int (lo + (i : Int))) S).bind fun y S => match y with
      | none => lcL (.rng lo m) n f (k + 1) (i + 1) S
      | some y => match S[n]? with
        | some (.lst acc) => if acc.length < sizeLine then lcL (.rng lo m) n f (k + 1) (i + 1) (S.set n (.lst (acc ++ [y]))) else .bad
        | _ => .bad := by
      conv => lhs; unfold lcL
      have : Src.item S (.rng lo m) i = some (some (.int (lo + (i : Int)))) := by unfold Src.item; rw [if_pos (by omega)]
      rw [this]
      try rfl
    rw [e, wp_bind]
    refine (step i acc S (by omega) h0).imp fun y S' ⟨d, e1, e2, h1⟩ => ?_
    subst e1
    dsimp only
    rw [e2]
    dsimp only
    rw [if_pos (by rw [hlen i acc S h0]; omega)]
    exact lc_rng I hm hlen step k (i + 1) (acc ++ [d]) _ (by omega) h1
theorem turn_wp {C : Cx} {own : List Nat} {tg : Tg} {e : IE} {σ σ1 : Pd.Env} {d : D} {S : Sto} {P : Option D → Sto → Prop} (h1 : asg tg d (wipeE σ own) = some σ1) (h2 : Wp (evE C e σ1 S) fun y S' => P (some y) S') : Wp (lcTurn C own tg [] e σ d S) P := by
  unfold lcTurn
  rw [h1]
  show Wp (Out.bind (evE C e σ1 S) fun y S => .ok (some y) S) P
  rw [wp_bind]
  exact h2.imp fun y S' h => wp_ok.mpr h
theorem set_at {b : Bs} {R R2 : Sto} {o o' : SO} : (b.sto ++ (R ++ o :: R2)).set (5 + R.length) o' = b.sto ++ (R ++ o' :: R2) := by
  rw [List.set_append_right _ _ (show b.sto.length ≤ 5 + R.length from Nat.le_add_right 5 _), show 5 + R.length - b.sto.length = R.length from Nat.add_sub_cancel_left 5 _, List.set_append_right _ _ (Nat.le_refl _), Nat.sub_self]
  rfl
theorem get_at {b : Bs} {R R2 : Sto} {o : SO} : (b.sto ++ (R ++ o :: R2))[5 + R.length]? = some o := by
  rw [List.getElem?_append_right (show b.sto.length ≤ 5 + R.length from Nat.le_add_right 5 _), show 5 + R.length - b.sto.length = R.length from Nat.add_sub_cancel_left 5 _, List.getElem?_append_right (Nat.le_refl _), Nat.sub_self]
  rfl
theorem atI_neg {α β : Type} {f : α → β} {xs : List α} (h : 0 < xs.length) : ∃ x ∈ xs, L2.atI (xs.map f) (-1) = some (f x) := by
  have hl : xs.length - 1 < xs.length := by omega
  refine ⟨xs[xs.length - 1], List.getElem_mem hl, ?_⟩
  unfold L2.atI L2.ixN
  rw [List.length_map, if_neg (by decide), if_pos (by omega)]
  have e : (-1 + (xs.length : Int)).toNat = xs.length - 1 := by omega
  show (xs.map f)[(-1 + (xs.length : Int)).toNat]? = _
  rw [e, List.getElem?_map, List.getElem?_eq_getElem hl]
  rfl
/-- a walk over a list that stays as it is -/
theorem lst_inv {a : Nat} {xs : List D} {f : D → Pd.Env → Sto → Out Fl} (I : Nat → Pd.Env → Sto → Prop) (hit : ∀ i σ S, I i σ S → items S (.ref a) = some xs) (step : ∀ (i : Nat) (σ : Pd.Env) (S : Sto) (h : i < xs.length), I i σ S → Wp (f xs[i] σ S) fun fl S' => ∃ σ', fl = .nx σ' ∧ I (i + 1) σ' S') :
    ∀ (k i : Nat) (σ : Pd.Env) (S : Sto), i + k = xs.length → I i σ S → Wp (forL (.lst a) f (k + 1) i σ S) fun fl S' => ∃ σ', fl = .nx σ' ∧ I xs.length σ' S'
  | 0, i, σ, S, h, h0 => by
    have hi : i = xs.length := by omega
    subst hi
    refine Wp.of (a := .nx σ) (S := S) ?_ ⟨σ, rfl, h0⟩
    unfold forL
    have : Src.item S (.lst a) xs.length = some none := by
      show (items S (.ref a)).map (fun ys => ys[xs.length]?) = _
      rw [hit _ _ _ h0]
      show some xs[xs.length]? = _
      rw [List.getElem?_eq_none (Nat.le_refl _)]
    rw [this]
  | k + 1, i, σ, S, h, h0 => by
    have hi : i < xs.length := by omega
    have e : forL (.lst a) f (k + 2) i σ S = (f xs[i] σ S).bind fun fl S => match fl with
      | .nx σ => forL (.lst a) f (k + 1) (i + 1) σ S
      | .ct σ => forL (.lst a) f (k + 1) (i + 1) σ S
      | .bk σ => .ok (.nx σ) S
      | .rt d => .ok (.rt d) S := by
      conv => lhs; unfold forL
      have : Src.item S (.lst a) i = some (some xs[i]) := by
        show (items S (.ref a)).map (fun ys => ys[i]?) = _
        rw [hit _ _ _ h0]
        show some xs[i]? = _
        rw [List.getElem?_eq_getElem hi]
      rw [this]
      try rfl
    rw [e, wp_bind]
    refine (step i σ S hi h0).imp fun fl S' ⟨σ', e1, h1⟩ => ?_
    subst e1
    exact lst_inv I hit step k (i + 1) σ' S' (by omega) h1
theorem loop_lst {C : Cx} {σ : Pd.Env} {S : Sto} {t : Tg} {e : IE} {body : List IS} {a : Nat} {xs : List D} (h : evE C e σ S = .ok (.ref a) S) (hi : items S (.ref a) = some xs) : evS C (.loop t .seq [e] body) σ S = forL (.lst a) (loopF C t body) (xs.length + 1) 0 σ S := by
  have h2 : mkSrc S .seq [.ref a] = some (.lst a) := by
    show seqSrc S (.ref a) = _
    unfold seqSrc
    dsimp only
    rw [hi]
  rw [loop_eval (S1 := S) (ds := [.ref a]) (by rw [q_cons, h]; rfl) h2]
  have : Src.size S (.lst a) = xs.length := by
    unfold Src.size
    rw [hi]
  rw [this]
/-! ### points shown, points alike -/
def dPt (p : Pt) : PyData := .tuple [.tuple [.int p.1.1, .int p.1.2], .tuple [.int p.2.1, .int p.2.2]]
theorem dump_pt {S : Sto} {n : Nat} {p : Pt} : dump S (n + 2) (pt p) = some (dPt p) := by
  unfold pt
  unfold dump
  rw [ds_fr, ds_fr, ds_nil]
  rfl
theorem ds_pt {S : Sto} {n : Nat} {p : Pt} {r : List D} : dumps S (n + 2) (pt p :: r) = (dumps S (n + 2) r).map (dPt p :: ·) := by
  conv => lhs; unfold dumps
  rw [dump_pt]
theorem sh_pt {p : Pt} (h : PB 1900 p) : PyData.showable (dPt p) = true := by
  unfold dPt PyData.showable
  exact shA_fr h.1 (shA_fr h.2 shA_nil)
theorem shA_pt {p : Pt} {r : List PyData} (h : PB 1900 p) (g : PyData.showableAll r = true) : PyData.showableAll (dPt p :: r) = true := by
  unfold PyData.showableAll
  rw [sh_pt h, g]
  rfl
theorem shaped_pt {p : Pt} : SeqAt.shaped (dPt p) = true := by
  unfold SeqAt.shaped dPt
  simp only [PyData.canLay0, PyData.canLayAll0, PyData.depth, PyData.depthAll]
  rfl
theorem q_eqP {S : Sto} {p q : Pt} : compOp .eq (pt p) (pt q) S = some (decide (p = q)) := by
  show eqD S (pt p) (pt q) = _
  have e : eqD S (pt p) (pt q) = (match dump S 60 (pt p), dump S 60 (pt q) with
    | some p, some q => if SeqAt.shaped p && SeqAt.shaped q then some (PyData.eqv p q) else none
    | _, _ => none) := rfl
  rw [e, dump_pt, dump_pt]
  simp only [shaped_pt, Bool.and_self, if_true]
  unfold dPt
  simp only [PyData.eqv, PyData.eqvAll, Bool.and_true]
  obtain ⟨⟨a, b⟩, c, d⟩ := p
  obtain ⟨⟨a', b'⟩, c', d'⟩ := q
  congr 1
  by_cases h1 : a = a' <;> by_cases h2 : b = b' <;> by_cases h3 : c = c' <;> by_cases h4 : d = d' <;> simp [h1, h2, h3, h4]
theorem app_new {S0 : Sto} {xs : List D} {d : D} (h : xs.length < sizeLine) : appendD 0 (.ref S0.length) d (S0 ++ [.lst xs]) = .ok .non (S0 ++ [.lst (xs ++ [d])]) := by
  unfold appendD
  dsimp only
  rw [get_new0]
  show (if xs.length < sizeLine then _ else _) = _
  rw [if_pos h]
  unfold write
  rw [if_pos (Nat.zero_le _)]
  dsimp only
  rw [List.set_append_right _ _ (Nat.le_refl _), Nat.sub_self]
  rfl
theorem isL_new {S0 : Sto} {xs : List D} : isL (S0 ++ [.lst xs]) (.ref S0.length) = true := by
  unfold isL
  dsimp only
  rw [get_new0]
  rfl
theorem mean_snoc {ps : List Pt} {q : Pt} (hp : PF (sumP ps)) (hn : 0 < ps.length) : mapS mulF (mapP addF (mapS mulF (meanF ps) ((ps.length : Int), 1)) q) (1, (ps.length : Int) + 1) = meanF (ps ++ [q]) := by
  have e : sumP (ps ++ [q]) = mapP addF (sumP ps) q := by unfold sumP; rw [List.foldl_append]; rfl
  unfold meanF
  rw [mean_back hp (by omega), e, List.length_append]
  rfl
end Pd
namespace K01
open PySem Pd
abbrev CC (n : Nat) : Cx := ⟨Pd.run T (n + 5), T.glo, fun g => match T.fns[g]? with | some fn => fn.np | none => 0, 0⟩
theorem likeF {n lo : Nat} {S : Sto} {x : Int × Int} (h : Bf 1900 x) : Pd.run T (n + 1) 32 lo [fr x, fr x] S = .ok (.bl true) S :=
  like_ok hLike dump_fr dump_fr (sh_fr h) rfl (Nat.le_of_ble_eq_true rfl)
/-- statements 3 to 9: two points, a factor -/
theorem mid_ok {n : Nat} {f g : Pt} {x : Int × Int} (hf : PF f) (hg : PF g) (hx : Fr x) (bf : PB 10 f) (bg : PB 10 g) (bx : Bf 10 x) {s1 a3 a4 a5 a6 a7 a8 a9 a10 a13 : Option D} {S0 : Sto} {P : Fl → Sto → Prop}
    (k : ∀ b3 b4 b5 X, Wp (evB (CC n) (b34.drop 10) [some (.ref 3), s1, some (fr x), b3, b4, b5, a6, a7, a8, a9, a10, some (pt f), some (pt g), a13] (S0 ++ X)) P) :
    Wp (evB (CC n) (b34.drop 3) [some (.ref 3), s1, some (fr x), a3, a4, a5, a6, a7, a8, a9, a10, some (pt f), some (pt g), a13] S0) P := by
  have BF := bf.mono (show 10 ≤ 400 by decide)
  have BG := bg.mono (show 10 ≤ 400 by decide)
  have BX := bx.mono (show 10 ≤ 400 by decide)
  have e1 := fun lo => plus_ok (n := n) (lo := lo) (S := S0) hf hg BF BG
  have e2 := fun lo => times_ok (n := n) (lo := lo) (S := S0) hf hx BF BX
  have e3 := fun lo S => squared_ok (n := n) (lo := lo) (S := S) hf hg BF BG
  have e4 := fun lo => squared_ok (n := n) (lo := lo) (S := S0) hg hf BG BF
  rw [gap_comm hf hg] at e4
  have e5 := fun lo S => need_ok' (n := n) (lo := lo) (S := S) hf
  have e6 := fun lo S => apart_ok (n := n + 1) (lo := lo) (S := S) hf hg BF BG
  have e7 := fun lo S => lplus_ok (n := n + 1) (lo := lo) (S := S) hf hg (bf.mono (by decide)) (bg.mono (by decide))
  have e8 := fun lo S => ltimes_ok (n := n + 1) (lo := lo) (S := S) hf hx (bf.mono (by decide)) (bx.mono (by decide))
  have hd := gap_fr hf hg
  have bA := (addP_ok hf hg bf bg).2
  have bM := (mulS_ok hf hx bf bx).2
  have bGap : Bf 100 (gapF f g) := by
    have c1 := bf_sub hf.1 hg.1 bf.1 bg.1
    have c2 := bf_sub hf.2 hg.2 bf.2 bg.2
    have h1 := sub_fr hf.1 hg.1
    have h2 := sub_fr hf.2 hg.2
    exact (bfA (mul_fr h1 h1) (mul_fr h2 h2) (bfM h1 h1 c1 c1) (bfM h2 h2 c2 c2)).mono (by decide)
  show Wp (evB (CC n) (_ :: _) _ _) _
  refine wp_b ?_
  simp only [q_slot, q_cst, q_glo, q_tup, q_lst, q_dic, q_bin, q_neg, q_not, q_cmp, q_ifx, q_isi, q_bi, q_call, q_idx, q_slc, q_append, q_extend, q_and, q_or, q_nil, q_cons, q_none, q_some, q_and1, q_and2, q_andT, q_andF, q_andB, q_or1, q_or2, q_orB, q_tval, q_tnot, q_tand, q_tor, q_tcmp, q_tand1, q_tand2, q_tor1, q_tor2, q_cnil, q_ccons, q_set, q_par, q_setix, q_ex, q_ret, q_retN, q_iff, q_pass, q_brk, q_cont, q_bnil, q_nextN, q_nextR, q_nextK, q_nextC, q_bok, q_getS, q_getO, q_t0, q_t1, q_t2, q_t3, q_t4, q_l0, q_l1, q_l2, q_l3, q_l4, q_l5, q_l6, q_l8, q_negI, q_notS, q_okB, q_okI, q_nxO, q_nxS, q_mkNon, q_iteT, q_iteF, q_ofB, q_addI, q_subI, q_mulI, q_fdivI, q_modI, q_powI, q_addT, q_eqI, q_neI, q_ltI, q_leI, q_gtI, q_geI, q_eqB, q_neB, q_eqS, q_neS, q_isB, q_isnB, q_isN, q_isnN, q_truB, q_truI, q_isiI, q_isiB, q_isiS, q_isiT, q_isiN, q_lenT, q_gcd, q_abs, q_max, q_min, q_int, q_tupT, q_listT, q_ixT, q_ixL, q_at0, q_at1, q_at2, q_at3, q_at4, q_nm, q_tp, q_asn, q_asc, q_pn, q_pc, wp_bind, wp_ok, List.map_cons, List.map_nil, List.replicate, List.cons_append, List.nil_append, List.append_nil, List.getElem?_cons_zero, List.getElem?_cons_succ, List.set_cons_zero, List.set_cons_succ, List.length_cons, List.length_nil, if_true, if_false, Nat.reduceAdd, Nat.reduceSub, Nat.reduceLT, Nat.reduceLeDiff, Nat.zero_add, Nat.lt_add_one, Nat.zero_lt_succ, decide_true, decide_false, Bool.not_true, Bool.not_false, ne_eq, not_false_eq_true, not_true_eq_false, Int.reduceEq, Int.reduceNe, Int.reduceLT, Int.reduceLE, Int.reduceNeg, Int.reduceToNat, Nat.reducePow, Nat.reduceEqDiff, Bool.false_eq_true, Bool.true_eq_false, List.any_cons, List.any_nil, Bool.or_false, Bool.or_true, Bool.false_or, Bool.true_or, Ty.sub, Int.cast_ofNat_Int, Int.natCast_zero, Int.natCast_one, eq_self, e1, e2, e3, e4]
  refine wp_b ?_
  have ea := app_new (S0 := S0) (xs := [pt (mapP addF f g), pt (mapS mulF f x), fr (gapF f g), fr (gapF f g)]) (d := pt f) (by rw [sizeLine_eq]; show 4 < 16777216; decide)
  simp only [List.cons_append, List.nil_append] at ea
  simp only [q_slot, q_cst, q_glo, q_tup, q_lst, q_dic, q_bin, q_neg, q_not, q_cmp, q_ifx, q_isi, q_bi, q_call, q_idx, q_slc, q_append, q_extend, q_and, q_or, q_nil, q_cons, q_none, q_some, q_and1, q_and2, q_andT, q_andF, q_andB, q_or1, q_or2, q_orB, q_tval, q_tnot, q_tand, q_tor, q_tcmp, q_tand1, q_tand2, q_tor1, q_tor2, q_cnil, q_ccons, q_set, q_par, q_setix, q_ex, q_ret, q_retN, q_iff, q_pass, q_brk, q_cont, q_bnil, q_nextN, q_nextR, q_nextK, q_nextC, q_bok, q_getS, q_getO, q_t0, q_t1, q_t2, q_t3, q_t4, q_l0, q_l1, q_l2, q_l3, q_l4, q_l5, q_l6, q_l8, q_negI, q_notS, q_okB, q_okI, q_nxO, q_nxS, q_mkNon, q_iteT, q_iteF, q_ofB, q_addI, q_subI, q_mulI, q_fdivI, q_modI, q_powI, q_addT, q_eqI, q_neI, q_ltI, q_leI, q_gtI, q_geI, q_eqB, q_neB, q_eqS, q_neS, q_isB, q_isnB, q_isN, q_isnN, q_truB, q_truI, q_isiI, q_isiB, q_isiS, q_isiT, q_isiN, q_lenT, q_gcd, q_abs, q_max, q_min, q_int, q_tupT, q_listT, q_ixT, q_ixL, q_at0, q_at1, q_at2, q_at3, q_at4, q_nm, q_tp, q_asn, q_asc, q_pn, q_pc, wp_bind, wp_ok, List.map_cons, List.map_nil, List.replicate, List.cons_append, List.nil_append, List.append_nil, List.getElem?_cons_zero, List.getElem?_cons_succ, List.set_cons_zero, List.set_cons_succ, List.length_cons, List.length_nil, if_true, if_false, Nat.reduceAdd, Nat.reduceSub, Nat.reduceLT, Nat.reduceLeDiff, Nat.zero_add, Nat.lt_add_one, Nat.zero_lt_succ, decide_true, decide_false, Bool.not_true, Bool.not_false, ne_eq, not_false_eq_true, not_true_eq_false, Int.reduceEq, Int.reduceNe, Int.reduceLT, Int.reduceLE, Int.reduceNeg, Int.reduceToNat, Nat.reducePow, Nat.reduceEqDiff, Bool.false_eq_true, Bool.true_eq_false, List.any_cons, List.any_nil, Bool.or_false, Bool.or_true, Bool.false_or, Bool.true_or, Ty.sub, Int.cast_ofNat_Int, Int.natCast_zero, Int.natCast_one, eq_self, isL_new, e5, ea]
  refine wp_b ?_
  simp only [q_slot, q_cst, q_glo, q_tup, q_lst, q_dic, q_bin, q_neg, q_not, q_cmp, q_ifx, q_isi, q_bi, q_call, q_idx, q_slc, q_append, q_extend, q_and, q_or, q_nil, q_cons, q_none, q_some, q_and1, q_and2, q_andT, q_andF, q_andB, q_or1, q_or2, q_orB, q_tval, q_tnot, q_tand, q_tor, q_tcmp, q_tand1, q_tand2, q_tor1, q_tor2, q_cnil, q_ccons, q_set, q_par, q_setix, q_ex, q_ret, q_retN, q_iff, q_pass, q_brk, q_cont, q_bnil, q_nextN, q_nextR, q_nextK, q_nextC, q_bok, q_getS, q_getO, q_t0, q_t1, q_t2, q_t3, q_t4, q_l0, q_l1, q_l2, q_l3, q_l4, q_l5, q_l6, q_l8, q_negI, q_notS, q_okB, q_okI, q_nxO, q_nxS, q_mkNon, q_iteT, q_iteF, q_ofB, q_addI, q_subI, q_mulI, q_fdivI, q_modI, q_powI, q_addT, q_eqI, q_neI, q_ltI, q_leI, q_gtI, q_geI, q_eqB, q_neB, q_eqS, q_neS, q_isB, q_isnB, q_isN, q_isnN, q_truB, q_truI, q_isiI, q_isiB, q_isiS, q_isiT, q_isiN, q_lenT, q_gcd, q_abs, q_max, q_min, q_int, q_tupT, q_listT, q_ixT, q_ixL, q_at0, q_at1, q_at2, q_at3, q_at4, q_nm, q_tp, q_asn, q_asc, q_pn, q_pc, wp_bind, wp_ok, List.map_cons, List.map_nil, List.replicate, List.cons_append, List.nil_append, List.append_nil, List.getElem?_cons_zero, List.getElem?_cons_succ, List.set_cons_zero, List.set_cons_succ, List.length_cons, List.length_nil, if_true, if_false, Nat.reduceAdd, Nat.reduceSub, Nat.reduceLT, Nat.reduceLeDiff, Nat.zero_add, Nat.lt_add_one, Nat.zero_lt_succ, decide_true, decide_false, Bool.not_true, Bool.not_false, ne_eq, not_false_eq_true, not_true_eq_false, Int.reduceEq, Int.reduceNe, Int.reduceLT, Int.reduceLE, Int.reduceNeg, Int.reduceToNat, Nat.reducePow, Nat.reduceEqDiff, Bool.false_eq_true, Bool.true_eq_false, List.any_cons, List.any_nil, Bool.or_false, Bool.or_true, Bool.false_or, Bool.true_or, Ty.sub, Int.cast_ofNat_Int, Int.natCast_zero, Int.natCast_one, eq_self, e6]
  refine wp_b ?_
  have l1 : ∀ lo, Pd.run T (n + 5) 32 lo [.ref S0.length, .ref (S0.length + 1)] (S0 ++ [.lst [pt (mapP addF f g), pt (mapS mulF f x), fr (gapF f g), fr (gapF f g), pt f], .lst [pt (mapP addF f g), pt (mapS mulF f x), fr (gapF f g), fr (gapF f g), pt f]]) = .ok (.bl true) (S0 ++ [.lst [pt (mapP addF f g), pt (mapS mulF f x), fr (gapF f g), fr (gapF f g), pt f], .lst [pt (mapP addF f g), pt (mapS mulF f x), fr (gapF f g), fr (gapF f g), pt f]]) := fun lo =>
    like2 hLike (n := n + 4) (xs := [pt (mapP addF f g), pt (mapS mulF f x), fr (gapF f g), fr (gapF f g), pt f]) (by rw [get_new0]; rfl) (by rw [get_new]; rfl) (fun S => by simp only [ds_pt, ds_fr, ds_nil, Option.map_some]; try rfl)
      (shA_pt (bA.mono (by decide)) (shA_pt (bM.mono (by decide)) (shA_fr (bGap.mono (by decide)) (shA_fr (bGap.mono (by decide)) (shA_pt (bf.mono (by decide)) shA_nil))))) rfl (Nat.le_of_ble_eq_true rfl)
  simp only [q_slot, q_cst, q_glo, q_tup, q_lst, q_dic, q_bin, q_neg, q_not, q_cmp, q_ifx, q_isi, q_bi, q_call, q_idx, q_slc, q_append, q_extend, q_and, q_or, q_nil, q_cons, q_none, q_some, q_and1, q_and2, q_andT, q_andF, q_andB, q_or1, q_or2, q_orB, q_tval, q_tnot, q_tand, q_tor, q_tcmp, q_tand1, q_tand2, q_tor1, q_tor2, q_cnil, q_ccons, q_set, q_par, q_setix, q_ex, q_ret, q_retN, q_iff, q_pass, q_brk, q_cont, q_bnil, q_nextN, q_nextR, q_nextK, q_nextC, q_bok, q_getS, q_getO, q_t0, q_t1, q_t2, q_t3, q_t4, q_l0, q_l1, q_l2, q_l3, q_l4, q_l5, q_l6, q_l8, q_negI, q_notS, q_okB, q_okI, q_nxO, q_nxS, q_mkNon, q_iteT, q_iteF, q_ofB, q_addI, q_subI, q_mulI, q_fdivI, q_modI, q_powI, q_addT, q_eqI, q_neI, q_ltI, q_leI, q_gtI, q_geI, q_eqB, q_neB, q_eqS, q_neS, q_isB, q_isnB, q_isN, q_isnN, q_truB, q_truI, q_isiI, q_isiB, q_isiS, q_isiT, q_isiN, q_lenT, q_gcd, q_abs, q_max, q_min, q_int, q_tupT, q_listT, q_ixT, q_ixL, q_at0, q_at1, q_at2, q_at3, q_at4, q_nm, q_tp, q_asn, q_asc, q_pn, q_pc, wp_bind, wp_ok, List.map_cons, List.map_nil, List.replicate, List.cons_append, List.nil_append, List.append_nil, List.getElem?_cons_zero, List.getElem?_cons_succ, List.set_cons_zero, List.set_cons_succ, List.length_cons, List.length_nil, if_true, if_false, Nat.reduceAdd, Nat.reduceSub, Nat.reduceLT, Nat.reduceLeDiff, Nat.zero_add, Nat.lt_add_one, Nat.zero_lt_succ, decide_true, decide_false, Bool.not_true, Bool.not_false, ne_eq, not_false_eq_true, not_true_eq_false, Int.reduceEq, Int.reduceNe, Int.reduceLT, Int.reduceLE, Int.reduceNeg, Int.reduceToNat, Nat.reducePow, Nat.reduceEqDiff, Bool.false_eq_true, Bool.true_eq_false, List.any_cons, List.any_nil, Bool.or_false, Bool.or_true, Bool.false_or, Bool.true_or, Ty.sub, Int.cast_ofNat_Int, Int.natCast_zero, Int.natCast_one, eq_self, e7, e8, List.append_assoc, List.length_append, l1]
  refine wp_b ?_
  have t1 : D.tup [.int 0, .int 1] = fr (0, 1) := rfl
  have tz := gap_zero hf hg
  simp only [q_slot, q_cst, q_glo, q_tup, q_lst, q_dic, q_bin, q_neg, q_not, q_cmp, q_ifx, q_isi, q_bi, q_call, q_idx, q_slc, q_append, q_extend, q_and, q_or, q_nil, q_cons, q_none, q_some, q_and1, q_and2, q_andT, q_andF, q_andB, q_or1, q_or2, q_orB, q_tval, q_tnot, q_tand, q_tor, q_tcmp, q_tand1, q_tand2, q_tor1, q_tor2, q_cnil, q_ccons, q_set, q_par, q_setix, q_ex, q_ret, q_retN, q_iff, q_pass, q_brk, q_cont, q_bnil, q_nextN, q_nextR, q_nextK, q_nextC, q_bok, q_getS, q_getO, q_t0, q_t1, q_t2, q_t3, q_t4, q_l0, q_l1, q_l2, q_l3, q_l4, q_l5, q_l6, q_l8, q_negI, q_notS, q_okB, q_okI, q_nxO, q_nxS, q_mkNon, q_iteT, q_iteF, q_ofB, q_addI, q_subI, q_mulI, q_fdivI, q_modI, q_powI, q_addT, q_eqI, q_neI, q_ltI, q_leI, q_gtI, q_geI, q_eqB, q_neB, q_eqS, q_neS, q_isB, q_isnB, q_isN, q_isnN, q_truB, q_truI, q_isiI, q_isiB, q_isiS, q_isiT, q_isiN, q_lenT, q_gcd, q_abs, q_max, q_min, q_int, q_tupT, q_listT, q_ixT, q_ixL, q_at0, q_at1, q_at2, q_at3, q_at4, q_nm, q_tp, q_asn, q_asc, q_pn, q_pc, wp_bind, wp_ok, List.map_cons, List.map_nil, List.replicate, List.cons_append, List.nil_append, List.append_nil, List.getElem?_cons_zero, List.getElem?_cons_succ, List.set_cons_zero, List.set_cons_succ, List.length_cons, List.length_nil, if_true, if_false, Nat.reduceAdd, Nat.reduceSub, Nat.reduceLT, Nat.reduceLeDiff, Nat.zero_add, Nat.lt_add_one, Nat.zero_lt_succ, decide_true, decide_false, Bool.not_true, Bool.not_false, ne_eq, not_false_eq_true, not_true_eq_false, Int.reduceEq, Int.reduceNe, Int.reduceLT, Int.reduceLE, Int.reduceNeg, Int.reduceToNat, Nat.reducePow, Nat.reduceEqDiff, Bool.false_eq_true, Bool.true_eq_false, List.any_cons, List.any_nil, Bool.or_false, Bool.or_true, Bool.false_or, Bool.true_or, Ty.sub, Int.cast_ofNat_Int, Int.natCast_zero, Int.natCast_one, eq_self, t1, q_eqF, q_eqP, tz]
  refine wp_b ?_
  have hfx := mapS_f hf hx
  have hgx := mapS_f hg hx
  have e9 := fun lo S => times_ok (n := n) (lo := lo) (S := S) hf hx BF BX
  have e10 := fun lo S => times_ok (n := n) (lo := lo) (S := S) hg hx BG BX
  have e11 := fun lo S => squared_ok (n := n) (lo := lo) (S := S) hfx hgx (bM.mono (by decide)) ((mulS_ok hg hx bg bx).2.mono (by decide))
  rw [gap_scale hf hg hx] at e11
  simp only [q_slot, q_cst, q_glo, q_tup, q_lst, q_dic, q_bin, q_neg, q_not, q_cmp, q_ifx, q_isi, q_bi, q_call, q_idx, q_slc, q_append, q_extend, q_and, q_or, q_nil, q_cons, q_none, q_some, q_and1, q_and2, q_andT, q_andF, q_andB, q_or1, q_or2, q_orB, q_tval, q_tnot, q_tand, q_tor, q_tcmp, q_tand1, q_tand2, q_tor1, q_tor2, q_cnil, q_ccons, q_set, q_par, q_setix, q_ex, q_ret, q_retN, q_iff, q_pass, q_brk, q_cont, q_bnil, q_nextN, q_nextR, q_nextK, q_nextC, q_bok, q_getS, q_getO, q_t0, q_t1, q_t2, q_t3, q_t4, q_l0, q_l1, q_l2, q_l3, q_l4, q_l5, q_l6, q_l8, q_negI, q_notS, q_okB, q_okI, q_nxO, q_nxS, q_mkNon, q_iteT, q_iteF, q_ofB, q_addI, q_subI, q_mulI, q_fdivI, q_modI, q_powI, q_addT, q_eqI, q_neI, q_ltI, q_leI, q_gtI, q_geI, q_eqB, q_neB, q_eqS, q_neS, q_isB, q_isnB, q_isN, q_isnN, q_truB, q_truI, q_isiI, q_isiB, q_isiS, q_isiT, q_isiN, q_lenT, q_gcd, q_abs, q_max, q_min, q_int, q_tupT, q_listT, q_ixT, q_ixL, q_at0, q_at1, q_at2, q_at3, q_at4, q_nm, q_tp, q_asn, q_asc, q_pn, q_pc, wp_bind, wp_ok, List.map_cons, List.map_nil, List.replicate, List.cons_append, List.nil_append, List.append_nil, List.getElem?_cons_zero, List.getElem?_cons_succ, List.set_cons_zero, List.set_cons_succ, List.length_cons, List.length_nil, if_true, if_false, Nat.reduceAdd, Nat.reduceSub, Nat.reduceLT, Nat.reduceLeDiff, Nat.zero_add, Nat.lt_add_one, Nat.zero_lt_succ, decide_true, decide_false, Bool.not_true, Bool.not_false, ne_eq, not_false_eq_true, not_true_eq_false, Int.reduceEq, Int.reduceNe, Int.reduceLT, Int.reduceLE, Int.reduceNeg, Int.reduceToNat, Nat.reducePow, Nat.reduceEqDiff, Bool.false_eq_true, Bool.true_eq_false, List.any_cons, List.any_nil, Bool.or_false, Bool.or_true, Bool.false_or, Bool.true_or, Ty.sub, Int.cast_ofNat_Int, Int.natCast_zero, Int.natCast_one, eq_self, e9, e10, e11]
  refine wp_b ?_
  have bxx := bfM hx hx bx bx
  have e12 := fun lo S => lMul (n + 2) lo S x x hx hx (bx.mono (by decide)) (bx.mono (by decide))
  have e13 := fun lo S => lMul (n + 2) lo S (gapF f g) (mulF x x) hd (mul_fr hx hx) (bGap.mono (by decide)) (bxx.mono (by decide))
  have l2 := fun lo S => likeF (n := n + 4) (lo := lo) (S := S) ((bfM hd (mul_fr hx hx) bGap bxx).mono (show 100 + (10 + 10) ≤ 1900 by decide))
  simp only [q_slot, q_cst, q_glo, q_tup, q_lst, q_dic, q_bin, q_neg, q_not, q_cmp, q_ifx, q_isi, q_bi, q_call, q_idx, q_slc, q_append, q_extend, q_and, q_or, q_nil, q_cons, q_none, q_some, q_and1, q_and2, q_andT, q_andF, q_andB, q_or1, q_or2, q_orB, q_tval, q_tnot, q_tand, q_tor, q_tcmp, q_tand1, q_tand2, q_tor1, q_tor2, q_cnil, q_ccons, q_set, q_par, q_setix, q_ex, q_ret, q_retN, q_iff, q_pass, q_brk, q_cont, q_bnil, q_nextN, q_nextR, q_nextK, q_nextC, q_bok, q_getS, q_getO, q_t0, q_t1, q_t2, q_t3, q_t4, q_l0, q_l1, q_l2, q_l3, q_l4, q_l5, q_l6, q_l8, q_negI, q_notS, q_okB, q_okI, q_nxO, q_nxS, q_mkNon, q_iteT, q_iteF, q_ofB, q_addI, q_subI, q_mulI, q_fdivI, q_modI, q_powI, q_addT, q_eqI, q_neI, q_ltI, q_leI, q_gtI, q_geI, q_eqB, q_neB, q_eqS, q_neS, q_isB, q_isnB, q_isN, q_isnN, q_truB, q_truI, q_isiI, q_isiB, q_isiS, q_isiT, q_isiN, q_lenT, q_gcd, q_abs, q_max, q_min, q_int, q_tupT, q_listT, q_ixT, q_ixL, q_at0, q_at1, q_at2, q_at3, q_at4, q_nm, q_tp, q_asn, q_asc, q_pn, q_pc, wp_bind, wp_ok, List.map_cons, List.map_nil, List.replicate, List.cons_append, List.nil_append, List.append_nil, List.getElem?_cons_zero, List.getElem?_cons_succ, List.set_cons_zero, List.set_cons_succ, List.length_cons, List.length_nil, if_true, if_false, Nat.reduceAdd, Nat.reduceSub, Nat.reduceLT, Nat.reduceLeDiff, Nat.zero_add, Nat.lt_add_one, Nat.zero_lt_succ, decide_true, decide_false, Bool.not_true, Bool.not_false, ne_eq, not_false_eq_true, not_true_eq_false, Int.reduceEq, Int.reduceNe, Int.reduceLT, Int.reduceLE, Int.reduceNeg, Int.reduceToNat, Nat.reducePow, Nat.reduceEqDiff, Bool.false_eq_true, Bool.true_eq_false, List.any_cons, List.any_nil, Bool.or_false, Bool.or_true, Bool.false_or, Bool.true_or, Ty.sub, Int.cast_ofNat_Int, Int.natCast_zero, Int.natCast_one, eq_self, e12, e13, l2]
  exact k _ _ _ _
end K01
namespace K01
open PySem Pd
theorem tail_ok {n : Nat} {ps : List Pt} (hp : ∀ p ∈ ps, PF p ∧ PB 10 p) (h0 : 0 < ps.length) (h6 : ps.length ≤ 6) {R R2 : Sto} {c : Bs} (hc : c.ok) (ht : c.t < 2 ^ 59) {a2 a3 a4 a5 a6 a7 a8 a9 a10 a11 a12 a13 : Option D} :
    Wp (evB (CC n) (b34.drop 10) [some (.ref 3), some (.ref (5 + R.length)), a2, a3, a4, a5, a6, a7, a8, a9, a10, a11, a12, a13] (c.sto ++ (R ++ .lst (ps.map pt) :: R2))) fun fl S' => fl = .rt (.bl true) ∧ ∃ (b' : Bs) (R' : Sto), S' = b'.sto ++ R' ∧ b'.ok ∧ b'.t = c.t + 4 := by
  have hn : (0 : Int) < (ps.length : Int) := by omega
  have bn : Bt 10 (ps.length : Int) := .of (by omega) (by omega)
  have bn1 : Bt 10 ((ps.length : Int) + 1) := .of (by omega) (by omega)
  obtain ⟨s1, s2⟩ : PF (sumP ps) ∧ PB (10 + ps.length * 11) (sumP ps) := sumP_ok (k := 10) ps O2 10 o2_f ⟨⟨.c rfl, .c rfl⟩, ⟨.c rfl, .c rfl⟩⟩ hp
  have s3 : PB 100 (sumP ps) := s2.mono (by omega)
  have f1 := one_fr hn
  have f2 : Fr ((ps.length : Int), 1) := ⟨Int.zero_lt_one, by unfold gcdI; simp⟩
  have f3 : Fr (1, (ps.length : Int) + 1) := one_fr (by omega)
  have q1 : Bf 10 (1, (ps.length : Int)) := ⟨.c rfl, bn⟩
  have q2 : Bf 10 ((ps.length : Int), 1) := ⟨bn, .c rfl⟩
  have q3 : Bf 10 (1, (ps.length : Int) + 1) := ⟨.c rfl, bn1⟩
  have hm : PF (meanF ps) ∧ PB 110 (meanF ps) := mulS_ok s1 f1 s3 q1
  show Wp (evB (CC n) (_ :: _) _ _) _
  refine wp_b ?_
  have o2 : D.tup [.tup [.int 0, .int 1], .tup [.int 0, .int 1]] = pt O2 := rfl
  simp only [q_slot, q_cst, q_glo, q_tup, q_lst, q_dic, q_bin, q_neg, q_not, q_cmp, q_ifx, q_isi, q_bi, q_call, q_idx, q_slc, q_append, q_extend, q_and, q_or, q_nil, q_cons, q_none, q_some, q_and1, q_and2, q_andT, q_andF, q_andB, q_or1, q_or2, q_orB, q_tval, q_tnot, q_tand, q_tor, q_tcmp, q_tand1, q_tand2, q_tor1, q_tor2, q_cnil, q_ccons, q_set, q_par, q_setix, q_ex, q_ret, q_retN, q_iff, q_pass, q_brk, q_cont, q_bnil, q_nextN, q_nextR, q_nextK, q_nextC, q_bok, q_getS, q_getO, q_t0, q_t1, q_t2, q_t3, q_t4, q_l0, q_l1, q_l2, q_l3, q_l4, q_l5, q_l6, q_l8, q_negI, q_notS, q_okB, q_okI, q_nxO, q_nxS, q_mkNon, q_iteT, q_iteF, q_ofB, q_addI, q_subI, q_mulI, q_fdivI, q_modI, q_powI, q_addT, q_eqI, q_neI, q_ltI, q_leI, q_gtI, q_geI, q_eqB, q_neB, q_eqS, q_neS, q_isB, q_isnB, q_isN, q_isnN, q_truB, q_truI, q_isiI, q_isiB, q_isiS, q_isiT, q_isiN, q_lenT, q_gcd, q_abs, q_max, q_min, q_int, q_tupT, q_listT, q_ixT, q_ixL, q_at0, q_at1, q_at2, q_at3, q_at4, q_nm, q_tp, q_asn, q_asc, q_pn, q_pc, wp_bind, wp_ok, List.map_cons, List.map_nil, List.replicate, List.cons_append, List.nil_append, List.append_nil, List.getElem?_cons_zero, List.getElem?_cons_succ, List.set_cons_zero, List.set_cons_succ, List.length_cons, List.length_nil, if_true, if_false, Nat.reduceAdd, Nat.reduceSub, Nat.reduceLT, Nat.reduceLeDiff, Nat.zero_add, Nat.lt_add_one, Nat.zero_lt_succ, decide_true, decide_false, Bool.not_true, Bool.not_false, ne_eq, not_false_eq_true, not_true_eq_false, Int.reduceEq, Int.reduceNe, Int.reduceLT, Int.reduceLE, Int.reduceNeg, Int.reduceToNat, Nat.reducePow, Nat.reduceEqDiff, Bool.false_eq_true, Bool.true_eq_false, List.any_cons, List.any_nil, Bool.or_false, Bool.or_true, Bool.false_or, Bool.true_or, Ty.sub, Int.cast_ofNat_Int, Int.natCast_zero, Int.natCast_one, eq_self, o2]
  refine wp_b ?_
  rw [loop_lst (a := 5 + R.length) (xs := ps.map pt) rfl items_at]
  refine (lst_inv (a := 5 + R.length) (xs := ps.map pt) (fun i σ S' => S' = c.sto ++ (R ++ .lst (ps.map pt) :: R2) ∧ ∃ x, σ = [some (.ref 3), some (.ref (5 + R.length)), a2, a3, a4, a5, some (pt (sumP (ps.take i))), x, a8, a9, a10, a11, a12, a13]) (fun i σ S h => by rw [h.1]; exact items_at) ?_ (ps.map pt).length 0 _ _ (by omega) ⟨rfl, _, rfl⟩).imp fun fl S' ⟨σ', e1, e2, x, e3⟩ => ?_
  · intro i σ S' hi ⟨e1, x, e2⟩
    subst e2
    rw [List.length_map] at hi
    have hq := hp ps[i] (List.getElem_mem hi)
    obtain ⟨z1, z2⟩ : PF (sumP (ps.take i)) ∧ PB (10 + (ps.take i).length * 11) (sumP (ps.take i)) := sumP_ok (k := 10) (ps.take i) O2 10 o2_f ⟨⟨.c rfl, .c rfl⟩, ⟨.c rfl, .c rfl⟩⟩ fun p h => hp p (List.mem_of_mem_take h)
    have hl : (ps.take i).length ≤ 20 := by rw [List.length_take]; omega
    have e : sumP (ps.take (i + 1)) = mapP addF (sumP (ps.take i)) ps[i] := by
      unfold sumP
      rw [List.take_succ_eq_append_getElem hi, List.foldl_append]
      rfl
    rw [List.getElem_map]
    show Wp (evB (CC n) [.set (.nm 6) (.call 29 [.slot 6, .slot 7])] [some (.ref 3), some (.ref (5 + R.length)), a2, a3, a4, a5, some (pt (sumP (ps.take i))), some (pt ps[i]), a8, a9, a10, a11, a12, a13] S') _
    refine wp_b ?_
    have e2 := fun lo => lplus_ok (n := n + 1) (lo := lo) (S := S') z1 hq.1 (z2.mono (by omega)) (hq.2.mono (by decide))
    simp only [q_slot, q_cst, q_glo, q_tup, q_lst, q_dic, q_bin, q_neg, q_not, q_cmp, q_ifx, q_isi, q_bi, q_call, q_idx, q_slc, q_append, q_extend, q_and, q_or, q_nil, q_cons, q_none, q_some, q_and1, q_and2, q_andT, q_andF, q_andB, q_or1, q_or2, q_orB, q_tval, q_tnot, q_tand, q_tor, q_tcmp, q_tand1, q_tand2, q_tor1, q_tor2, q_cnil, q_ccons, q_set, q_par, q_setix, q_ex, q_ret, q_retN, q_iff, q_pass, q_brk, q_cont, q_bnil, q_nextN, q_nextR, q_nextK, q_nextC, q_bok, q_getS, q_getO, q_t0, q_t1, q_t2, q_t3, q_t4, q_l0, q_l1, q_l2, q_l3, q_l4, q_l5, q_l6, q_l8, q_negI, q_notS, q_okB, q_okI, q_nxO, q_nxS, q_mkNon, q_iteT, q_iteF, q_ofB, q_addI, q_subI, q_mulI, q_fdivI, q_modI, q_powI, q_addT, q_eqI, q_neI, q_ltI, q_leI, q_gtI, q_geI, q_eqB, q_neB, q_eqS, q_neS, q_isB, q_isnB, q_isN, q_isnN, q_truB, q_truI, q_isiI, q_isiB, q_isiS, q_isiT, q_isiN, q_lenT, q_gcd, q_abs, q_max, q_min, q_int, q_tupT, q_listT, q_ixT, q_ixL, q_at0, q_at1, q_at2, q_at3, q_at4, q_nm, q_tp, q_asn, q_asc, q_pn, q_pc, wp_bind, wp_ok, List.map_cons, List.map_nil, List.replicate, List.cons_append, List.nil_append, List.append_nil, List.getElem?_cons_zero, List.getElem?_cons_succ, List.set_cons_zero, List.set_cons_succ, List.length_cons, List.length_nil, if_true, if_false, Nat.reduceAdd, Nat.reduceSub, Nat.reduceLT, Nat.reduceLeDiff, Nat.zero_add, Nat.lt_add_one, Nat.zero_lt_succ, decide_true, decide_false, Bool.not_true, Bool.not_false, ne_eq, not_false_eq_true, not_true_eq_false, Int.reduceEq, Int.reduceNe, Int.reduceLT, Int.reduceLE, Int.reduceNeg, Int.reduceToNat, Nat.reducePow, Nat.reduceEqDiff, Bool.false_eq_true, Bool.true_eq_false, List.any_cons, List.any_nil, Bool.or_false, Bool.or_true, Bool.false_or, Bool.true_or, Ty.sub, Int.cast_ofNat_Int, Int.natCast_zero, Int.natCast_one, eq_self, e2]
    rw [← e]
    exact ⟨_, rfl, e1, _, rfl⟩
  · subst e1 e2 e3
    rw [List.length_map, List.take_length]
    simp only [q_slot, q_cst, q_glo, q_tup, q_lst, q_dic, q_bin, q_neg, q_not, q_cmp, q_ifx, q_isi, q_bi, q_call, q_idx, q_slc, q_append, q_extend, q_and, q_or, q_nil, q_cons, q_none, q_some, q_and1, q_and2, q_andT, q_andF, q_andB, q_or1, q_or2, q_orB, q_tval, q_tnot, q_tand, q_tor, q_tcmp, q_tand1, q_tand2, q_tor1, q_tor2, q_cnil, q_ccons, q_set, q_par, q_setix, q_ex, q_ret, q_retN, q_iff, q_pass, q_brk, q_cont, q_bnil, q_nextN, q_nextR, q_nextK, q_nextC, q_bok, q_getS, q_getO, q_t0, q_t1, q_t2, q_t3, q_t4, q_l0, q_l1, q_l2, q_l3, q_l4, q_l5, q_l6, q_l8, q_negI, q_notS, q_okB, q_okI, q_nxO, q_nxS, q_mkNon, q_iteT, q_iteF, q_ofB, q_addI, q_subI, q_mulI, q_fdivI, q_modI, q_powI, q_addT, q_eqI, q_neI, q_ltI, q_leI, q_gtI, q_geI, q_eqB, q_neB, q_eqS, q_neS, q_isB, q_isnB, q_isN, q_isnN, q_truB, q_truI, q_isiI, q_isiB, q_isiS, q_isiT, q_isiN, q_lenT, q_gcd, q_abs, q_max, q_min, q_int, q_tupT, q_listT, q_ixT, q_ixL, q_at0, q_at1, q_at2, q_at3, q_at4, q_nm, q_tp, q_asn, q_asc, q_pn, q_pc, wp_bind, wp_ok, List.map_cons, List.map_nil, List.replicate, List.cons_append, List.nil_append, List.append_nil, List.getElem?_cons_zero, List.getElem?_cons_succ, List.set_cons_zero, List.set_cons_succ, List.length_cons, List.length_nil, if_true, if_false, Nat.reduceAdd, Nat.reduceSub, Nat.reduceLT, Nat.reduceLeDiff, Nat.zero_add, Nat.lt_add_one, Nat.zero_lt_succ, decide_true, decide_false, Bool.not_true, Bool.not_false, ne_eq, not_false_eq_true, not_true_eq_false, Int.reduceEq, Int.reduceNe, Int.reduceLT, Int.reduceLE, Int.reduceNeg, Int.reduceToNat, Nat.reducePow, Nat.reduceEqDiff, Bool.false_eq_true, Bool.true_eq_false, List.any_cons, List.any_nil, Bool.or_false, Bool.or_true, Bool.false_or, Bool.true_or, Ty.sub, Int.cast_ofNat_Int, Int.natCast_zero, Int.natCast_one, eq_self]
    refine wp_b ?_
    have el := fun (b : Bs) (R2 : Sto) => len_items (items_at (b := b) (R := R) (R2 := R2) (xs := ps.map pt))
    simp only [List.length_map] at el
    have t1 : ∀ {a b : Int}, D.tup [.int a, .int b] = fr (a, b) := rfl
    have e2 := fun lo S => ltimes_ok (n := n + 1) (lo := lo) (S := S) s1 f1 (s3.mono (by decide)) (q1.mono (by decide))
    have t2 : mapS mulF (sumP ps) (1, (ps.length : Int)) = meanF ps := rfl
    rw [t2] at e2
    simp only [q_slot, q_cst, q_glo, q_tup, q_lst, q_dic, q_bin, q_neg, q_not, q_cmp, q_ifx, q_isi, q_bi, q_call, q_idx, q_slc, q_append, q_extend, q_and, q_or, q_nil, q_cons, q_none, q_some, q_and1, q_and2, q_andT, q_andF, q_andB, q_or1, q_or2, q_orB, q_tval, q_tnot, q_tand, q_tor, q_tcmp, q_tand1, q_tand2, q_tor1, q_tor2, q_cnil, q_ccons, q_set, q_par, q_setix, q_ex, q_ret, q_retN, q_iff, q_pass, q_brk, q_cont, q_bnil, q_nextN, q_nextR, q_nextK, q_nextC, q_bok, q_getS, q_getO, q_t0, q_t1, q_t2, q_t3, q_t4, q_l0, q_l1, q_l2, q_l3, q_l4, q_l5, q_l6, q_l8, q_negI, q_notS, q_okB, q_okI, q_nxO, q_nxS, q_mkNon, q_iteT, q_iteF, q_ofB, q_addI, q_subI, q_mulI, q_fdivI, q_modI, q_powI, q_addT, q_eqI, q_neI, q_ltI, q_leI, q_gtI, q_geI, q_eqB, q_neB, q_eqS, q_neS, q_isB, q_isnB, q_isN, q_isnN, q_truB, q_truI, q_isiI, q_isiB, q_isiS, q_isiT, q_isiN, q_lenT, q_gcd, q_abs, q_max, q_min, q_int, q_tupT, q_listT, q_ixT, q_ixL, q_at0, q_at1, q_at2, q_at3, q_at4, q_nm, q_tp, q_asn, q_asc, q_pn, q_pc, wp_bind, wp_ok, List.map_cons, List.map_nil, List.replicate, List.cons_append, List.nil_append, List.append_nil, List.getElem?_cons_zero, List.getElem?_cons_succ, List.set_cons_zero, List.set_cons_succ, List.length_cons, List.length_nil, if_true, if_false, Nat.reduceAdd, Nat.reduceSub, Nat.reduceLT, Nat.reduceLeDiff, Nat.zero_add, Nat.lt_add_one, Nat.zero_lt_succ, decide_true, decide_false, Bool.not_true, Bool.not_false, ne_eq, not_false_eq_true, not_true_eq_false, Int.reduceEq, Int.reduceNe, Int.reduceLT, Int.reduceLE, Int.reduceNeg, Int.reduceToNat, Nat.reducePow, Nat.reduceEqDiff, Bool.false_eq_true, Bool.true_eq_false, List.any_cons, List.any_nil, Bool.or_false, Bool.or_true, Bool.false_or, Bool.true_or, Ty.sub, Int.cast_ofNat_Int, Int.natCast_zero, Int.natCast_one, eq_self, el, t1, e2]
    refine wp_b ?_
    simp only [q_slot, q_cst, q_glo, q_tup, q_lst, q_dic, q_bin, q_neg, q_not, q_cmp, q_ifx, q_isi, q_bi, q_call, q_idx, q_slc, q_append, q_extend, q_and, q_or, q_nil, q_cons, q_none, q_some, q_and1, q_and2, q_andT, q_andF, q_andB, q_or1, q_or2, q_orB, q_tval, q_tnot, q_tand, q_tor, q_tcmp, q_tand1, q_tand2, q_tor1, q_tor2, q_cnil, q_ccons, q_set, q_par, q_setix, q_ex, q_ret, q_retN, q_iff, q_pass, q_brk, q_cont, q_bnil, q_nextN, q_nextR, q_nextK, q_nextC, q_bok, q_getS, q_getO, q_t0, q_t1, q_t2, q_t3, q_t4, q_l0, q_l1, q_l2, q_l3, q_l4, q_l5, q_l6, q_l8, q_negI, q_notS, q_okB, q_okI, q_nxO, q_nxS, q_mkNon, q_iteT, q_iteF, q_ofB, q_addI, q_subI, q_mulI, q_fdivI, q_modI, q_powI, q_addT, q_eqI, q_neI, q_ltI, q_leI, q_gtI, q_geI, q_eqB, q_neB, q_eqS, q_neS, q_isB, q_isnB, q_isN, q_isnN, q_truB, q_truI, q_isiI, q_isiB, q_isiS, q_isiT, q_isiN, q_lenT, q_gcd, q_abs, q_max, q_min, q_int, q_tupT, q_listT, q_ixT, q_ixL, q_at0, q_at1, q_at2, q_at3, q_at4, q_nm, q_tp, q_asn, q_asc, q_pn, q_pc, wp_bind, wp_ok, List.map_cons, List.map_nil, List.replicate, List.cons_append, List.nil_append, List.append_nil, List.getElem?_cons_zero, List.getElem?_cons_succ, List.set_cons_zero, List.set_cons_succ, List.length_cons, List.length_nil, if_true, if_false, Nat.reduceAdd, Nat.reduceSub, Nat.reduceLT, Nat.reduceLeDiff, Nat.zero_add, Nat.lt_add_one, Nat.zero_lt_succ, decide_true, decide_false, Bool.not_true, Bool.not_false, ne_eq, not_false_eq_true, not_true_eq_false, Int.reduceEq, Int.reduceNe, Int.reduceLT, Int.reduceLE, Int.reduceNeg, Int.reduceToNat, Nat.reducePow, Nat.reduceEqDiff, Bool.false_eq_true, Bool.true_eq_false, List.any_cons, List.any_nil, Bool.or_false, Bool.or_true, Bool.false_or, Bool.true_or, Ty.sub, Int.cast_ofNat_Int, Int.natCast_zero, Int.natCast_one, eq_self]
    refine (drawn_ok (n := n + 1) hc (by omega)).imp fun d S' ⟨q, c', R', e1, hq, bq, e2, k1, k2⟩ => ?_
    subst e1 e2
    simp only [q_slot, q_cst, q_glo, q_tup, q_lst, q_dic, q_bin, q_neg, q_not, q_cmp, q_ifx, q_isi, q_bi, q_call, q_idx, q_slc, q_append, q_extend, q_and, q_or, q_nil, q_cons, q_none, q_some, q_and1, q_and2, q_andT, q_andF, q_andB, q_or1, q_or2, q_orB, q_tval, q_tnot, q_tand, q_tor, q_tcmp, q_tand1, q_tand2, q_tor1, q_tor2, q_cnil, q_ccons, q_set, q_par, q_setix, q_ex, q_ret, q_retN, q_iff, q_pass, q_brk, q_cont, q_bnil, q_nextN, q_nextR, q_nextK, q_nextC, q_bok, q_getS, q_getO, q_t0, q_t1, q_t2, q_t3, q_t4, q_l0, q_l1, q_l2, q_l3, q_l4, q_l5, q_l6, q_l8, q_negI, q_notS, q_okB, q_okI, q_nxO, q_nxS, q_mkNon, q_iteT, q_iteF, q_ofB, q_addI, q_subI, q_mulI, q_fdivI, q_modI, q_powI, q_addT, q_eqI, q_neI, q_ltI, q_leI, q_gtI, q_geI, q_eqB, q_neB, q_eqS, q_neS, q_isB, q_isnB, q_isN, q_isnN, q_truB, q_truI, q_isiI, q_isiB, q_isiS, q_isiT, q_isiN, q_lenT, q_gcd, q_abs, q_max, q_min, q_int, q_tupT, q_listT, q_ixT, q_ixL, q_at0, q_at1, q_at2, q_at3, q_at4, q_nm, q_tp, q_asn, q_asc, q_pn, q_pc, wp_bind, wp_ok, List.map_cons, List.map_nil, List.replicate, List.cons_append, List.nil_append, List.append_nil, List.getElem?_cons_zero, List.getElem?_cons_succ, List.set_cons_zero, List.set_cons_succ, List.length_cons, List.length_nil, if_true, if_false, Nat.reduceAdd, Nat.reduceSub, Nat.reduceLT, Nat.reduceLeDiff, Nat.zero_add, Nat.lt_add_one, Nat.zero_lt_succ, decide_true, decide_false, Bool.not_true, Bool.not_false, ne_eq, not_false_eq_true, not_true_eq_false, Int.reduceEq, Int.reduceNe, Int.reduceLT, Int.reduceLE, Int.reduceNeg, Int.reduceToNat, Nat.reducePow, Nat.reduceEqDiff, Bool.false_eq_true, Bool.true_eq_false, List.any_cons, List.any_nil, Bool.or_false, Bool.or_true, Bool.false_or, Bool.true_or, Ty.sub, Int.cast_ofNat_Int, Int.natCast_zero, Int.natCast_one, eq_self, List.append_assoc, List.cons_append]
    refine wp_b ?_
    have g1 := mulS_ok hm.1 f2 hm.2 q2
    have g2 := addP_ok g1.1 hq g1.2 bq
    have e3 := fun lo S => ltimes_ok (n := n + 1) (lo := lo) (S := S) hm.1 f2 (hm.2.mono (by decide)) (q2.mono (by decide))
    have e4 := fun lo S => lplus_ok (n := n + 1) (lo := lo) (S := S) g1.1 hq (g1.2.mono (by decide)) (bq.mono (by decide))
    have e5 := fun lo S => ltimes_ok (n := n + 1) (lo := lo) (S := S) g2.1 f3 (g2.2.mono (by decide)) (q3.mono (by decide))
    have g3 := (mulS_ok g2.1 f3 g2.2 q3).2
    rw [mean_snoc s1 h0] at e5 g3
    simp only [q_slot, q_cst, q_glo, q_tup, q_lst, q_dic, q_bin, q_neg, q_not, q_cmp, q_ifx, q_isi, q_bi, q_call, q_idx, q_slc, q_append, q_extend, q_and, q_or, q_nil, q_cons, q_none, q_some, q_and1, q_and2, q_andT, q_andF, q_andB, q_or1, q_or2, q_orB, q_tval, q_tnot, q_tand, q_tor, q_tcmp, q_tand1, q_tand2, q_tor1, q_tor2, q_cnil, q_ccons, q_set, q_par, q_setix, q_ex, q_ret, q_retN, q_iff, q_pass, q_brk, q_cont, q_bnil, q_nextN, q_nextR, q_nextK, q_nextC, q_bok, q_getS, q_getO, q_t0, q_t1, q_t2, q_t3, q_t4, q_l0, q_l1, q_l2, q_l3, q_l4, q_l5, q_l6, q_l8, q_negI, q_notS, q_okB, q_okI, q_nxO, q_nxS, q_mkNon, q_iteT, q_iteF, q_ofB, q_addI, q_subI, q_mulI, q_fdivI, q_modI, q_powI, q_addT, q_eqI, q_neI, q_ltI, q_leI, q_gtI, q_geI, q_eqB, q_neB, q_eqS, q_neS, q_isB, q_isnB, q_isN, q_isnN, q_truB, q_truI, q_isiI, q_isiB, q_isiS, q_isiT, q_isiN, q_lenT, q_gcd, q_abs, q_max, q_min, q_int, q_tupT, q_listT, q_ixT, q_ixL, q_at0, q_at1, q_at2, q_at3, q_at4, q_nm, q_tp, q_asn, q_asc, q_pn, q_pc, wp_bind, wp_ok, List.map_cons, List.map_nil, List.replicate, List.cons_append, List.nil_append, List.append_nil, List.getElem?_cons_zero, List.getElem?_cons_succ, List.set_cons_zero, List.set_cons_succ, List.length_cons, List.length_nil, if_true, if_false, Nat.reduceAdd, Nat.reduceSub, Nat.reduceLT, Nat.reduceLeDiff, Nat.zero_add, Nat.lt_add_one, Nat.zero_lt_succ, decide_true, decide_false, Bool.not_true, Bool.not_false, ne_eq, not_false_eq_true, not_true_eq_false, Int.reduceEq, Int.reduceNe, Int.reduceLT, Int.reduceLE, Int.reduceNeg, Int.reduceToNat, Nat.reducePow, Nat.reduceEqDiff, Bool.false_eq_true, Bool.true_eq_false, List.any_cons, List.any_nil, Bool.or_false, Bool.or_true, Bool.false_or, Bool.true_or, Ty.sub, Int.cast_ofNat_Int, Int.natCast_zero, Int.natCast_one, eq_self, el, t1, e3, e4, e5]
    refine wp_b ?_
    have hps : ∀ p ∈ ps ++ [q], PF p ∧ PB 10 p := fun p h => by
      rcases List.mem_append.mp h with h | h
      · exact hp p h
      · obtain rfl := List.mem_singleton.mp h
        exact ⟨hq, bq⟩
    have e6 := fun lo S => mean_ok' (n := n) (lo := lo) (S := S) hp h0 (by omega)
    have e7 := fun lo S => mean_ok' (n := n) (lo := lo) (S := S) hps (by rw [List.length_append]; show 0 < ps.length + 1; omega) (by rw [List.length_append]; show ps.length + 1 ≤ 20; omega)
    have et : ∀ R2, bifn .tuple [.ref (5 + R.length)] (c'.sto ++ (R ++ .lst (ps.map pt) :: R2)) = .ok (.tup (ps.map pt)) (c'.sto ++ (R ++ .lst (ps.map pt) :: R2)) := fun R2 => by
      show bTuple [.ref (5 + R.length)] _ = _
      unfold bTuple
      dsimp only
      rw [items_at]
    generalize hS : c'.sto ++ (R ++ SO.lst (List.map pt ps) :: (R2 ++ R')) = S0
    have et0 := et (R2 ++ R')
    rw [hS] at et0
    have hget : ∀ L : Sto, (S0 ++ L)[5 + R.length]? = some (.lst (ps.map pt)) := fun L => by
      rw [← hS, List.append_assoc, List.append_assoc, List.cons_append]
      exact get_at
    have ea : ∀ x : Pt, binop .add (.ref (5 + R.length)) (.ref S0.length) (S0 ++ [SO.lst [pt x]]) = .ok (.ref (S0 ++ [SO.lst [pt x]]).length) (S0 ++ [SO.lst [pt x]] ++ [SO.lst (ps.map pt ++ [pt x])]) := fun x =>
      addL (hget _) (by rw [get_new0]; rfl) (by rw [sizeLine_eq, List.length_map]; show ps.length + 1 ≤ _; omega)
    have ea0 := ea q
    have et1 : bifn .tuple [.ref (S0.length + 1)] (S0 ++ [.lst [pt q], .lst (ps.map pt ++ [pt q])]) = .ok (.tup ((ps ++ [q]).map pt)) (S0 ++ [.lst [pt q], .lst (ps.map pt ++ [pt q])]) := by
      show bTuple [.ref (S0.length + 1)] _ = _
      unfold bTuple
      dsimp only
      rw [items_get (xs := ps.map pt ++ [pt q]) (by rw [get_new]; rfl), List.map_append]
      rfl
    simp only [List.append_assoc, List.length_append, List.length_cons, List.length_nil, List.cons_append, List.nil_append, Nat.zero_add] at ea0
    have l1 : ∀ lo, Pd.run T (n + 5) 32 lo [.ref (S0.length + 2), .ref (S0.length + 3)] (S0 ++ [.lst [pt q], .lst (ps.map pt ++ [pt q]), .lst [pt (meanF ps), pt (meanF (ps ++ [q]))], .lst [pt (meanF ps), pt (meanF (ps ++ [q]))]]) = .ok (.bl true) (S0 ++ [.lst [pt q], .lst (ps.map pt ++ [pt q]), .lst [pt (meanF ps), pt (meanF (ps ++ [q]))], .lst [pt (meanF ps), pt (meanF (ps ++ [q]))]]) := fun lo =>
      like2 hLike (n := n + 4) (xs := [pt (meanF ps), pt (meanF (ps ++ [q]))]) (by rw [get_new]; rfl) (by rw [get_new]; rfl) (fun S => by simp only [ds_pt, ds_fr, ds_nil, Option.map_some]; try rfl) (shA_pt (hm.2.mono (by decide)) (shA_pt (g3.mono (by decide)) shA_nil)) rfl (Nat.le_of_ble_eq_true rfl)
    simp only [q_slot, q_cst, q_glo, q_tup, q_lst, q_dic, q_bin, q_neg, q_not, q_cmp, q_ifx, q_isi, q_bi, q_call, q_idx, q_slc, q_append, q_extend, q_and, q_or, q_nil, q_cons, q_none, q_some, q_and1, q_and2, q_andT, q_andF, q_andB, q_or1, q_or2, q_orB, q_tval, q_tnot, q_tand, q_tor, q_tcmp, q_tand1, q_tand2, q_tor1, q_tor2, q_cnil, q_ccons, q_set, q_par, q_setix, q_ex, q_ret, q_retN, q_iff, q_pass, q_brk, q_cont, q_bnil, q_nextN, q_nextR, q_nextK, q_nextC, q_bok, q_getS, q_getO, q_t0, q_t1, q_t2, q_t3, q_t4, q_l0, q_l1, q_l2, q_l3, q_l4, q_l5, q_l6, q_l8, q_negI, q_notS, q_okB, q_okI, q_nxO, q_nxS, q_mkNon, q_iteT, q_iteF, q_ofB, q_addI, q_subI, q_mulI, q_fdivI, q_modI, q_powI, q_addT, q_eqI, q_neI, q_ltI, q_leI, q_gtI, q_geI, q_eqB, q_neB, q_eqS, q_neS, q_isB, q_isnB, q_isN, q_isnN, q_truB, q_truI, q_isiI, q_isiB, q_isiS, q_isiT, q_isiN, q_lenT, q_gcd, q_abs, q_max, q_min, q_int, q_tupT, q_listT, q_ixT, q_ixL, q_at0, q_at1, q_at2, q_at3, q_at4, q_nm, q_tp, q_asn, q_asc, q_pn, q_pc, wp_bind, wp_ok, List.map_cons, List.map_nil, List.replicate, List.cons_append, List.nil_append, List.append_nil, List.getElem?_cons_zero, List.getElem?_cons_succ, List.set_cons_zero, List.set_cons_succ, List.length_cons, List.length_nil, if_true, if_false, Nat.reduceAdd, Nat.reduceSub, Nat.reduceLT, Nat.reduceLeDiff, Nat.zero_add, Nat.lt_add_one, Nat.zero_lt_succ, decide_true, decide_false, Bool.not_true, Bool.not_false, ne_eq, not_false_eq_true, not_true_eq_false, Int.reduceEq, Int.reduceNe, Int.reduceLT, Int.reduceLE, Int.reduceNeg, Int.reduceToNat, Nat.reducePow, Nat.reduceEqDiff, Bool.false_eq_true, Bool.true_eq_false, List.any_cons, List.any_nil, Bool.or_false, Bool.or_true, Bool.false_or, Bool.true_or, Ty.sub, Int.cast_ofNat_Int, Int.natCast_zero, Int.natCast_one, eq_self, et0, e6, ea0, List.append_assoc, List.length_append]
    simp only [q_slot, q_cst, q_glo, q_tup, q_lst, q_dic, q_bin, q_neg, q_not, q_cmp, q_ifx, q_isi, q_bi, q_call, q_idx, q_slc, q_append, q_extend, q_and, q_or, q_nil, q_cons, q_none, q_some, q_and1, q_and2, q_andT, q_andF, q_andB, q_or1, q_or2, q_orB, q_tval, q_tnot, q_tand, q_tor, q_tcmp, q_tand1, q_tand2, q_tor1, q_tor2, q_cnil, q_ccons, q_set, q_par, q_setix, q_ex, q_ret, q_retN, q_iff, q_pass, q_brk, q_cont, q_bnil, q_nextN, q_nextR, q_nextK, q_nextC, q_bok, q_getS, q_getO, q_t0, q_t1, q_t2, q_t3, q_t4, q_l0, q_l1, q_l2, q_l3, q_l4, q_l5, q_l6, q_l8, q_negI, q_notS, q_okB, q_okI, q_nxO, q_nxS, q_mkNon, q_iteT, q_iteF, q_ofB, q_addI, q_subI, q_mulI, q_fdivI, q_modI, q_powI, q_addT, q_eqI, q_neI, q_ltI, q_leI, q_gtI, q_geI, q_eqB, q_neB, q_eqS, q_neS, q_isB, q_isnB, q_isN, q_isnN, q_truB, q_truI, q_isiI, q_isiB, q_isiS, q_isiT, q_isiN, q_lenT, q_gcd, q_abs, q_max, q_min, q_int, q_tupT, q_listT, q_ixT, q_ixL, q_at0, q_at1, q_at2, q_at3, q_at4, q_nm, q_tp, q_asn, q_asc, q_pn, q_pc, wp_bind, wp_ok, List.map_cons, List.map_nil, List.replicate, List.cons_append, List.nil_append, List.append_nil, List.getElem?_cons_zero, List.getElem?_cons_succ, List.set_cons_zero, List.set_cons_succ, List.length_cons, List.length_nil, if_true, if_false, Nat.reduceAdd, Nat.reduceSub, Nat.reduceLT, Nat.reduceLeDiff, Nat.zero_add, Nat.lt_add_one, Nat.zero_lt_succ, decide_true, decide_false, Bool.not_true, Bool.not_false, ne_eq, not_false_eq_true, not_true_eq_false, Int.reduceEq, Int.reduceNe, Int.reduceLT, Int.reduceLE, Int.reduceNeg, Int.reduceToNat, Nat.reducePow, Nat.reduceEqDiff, Bool.false_eq_true, Bool.true_eq_false, List.any_cons, List.any_nil, Bool.or_false, Bool.or_true, Bool.false_or, Bool.true_or, Ty.sub, Int.cast_ofNat_Int, Int.natCast_zero, Int.natCast_one, eq_self, et1, e7, List.append_assoc, List.length_append, l1]
    refine ⟨by first | rfl | trivial, c', ?_⟩
    rw [← hS]
    exact ⟨_, List.append_assoc _ _ _, k1, k2⟩
end K01
namespace K01
open PySem Pd
theorem right_ok {n : Nat} {R : Sto} {b : Bs} (hb : b.ok) (ht : b.t < 2 ^ 58) : Wp (Pd.run T (n + 6) 34 0 [.ref 3] (b.sto ++ R)) fun d S' => d = .bl true ∧ ∃ (b' : Bs) (R' : Sto), S' = b'.sto ++ R' ∧ b'.ok ∧ b'.t ≤ b.t + 100 := by
  refine wp_run (n := n + 5) (fn := ⟨1, 14, false, b34⟩) rfl rfl (wp_b ?_)
  rw [q_set, wp_bind]
  obtain ⟨d, S1, e, m, b1, rfl, m0, m1, rfl, k1, k2⟩ := draw_ok (n := n + 3) (R := R) (m := 6) hDraw hMixed hb (by omega) (by decide) (.c rfl)
  have hb' : inB (1 + m) = true := by unfold inB; simp only [Bool.and_eq_true, decide_eq_true_eq]; omega
  have he : evs (CC n) [.bin .add (.cst (.int 1)) (.call 22 [.slot 0, .cst (.int 6)])] [some (.ref 3), none, none, none, none, none, none, none, none, none, none, none, none, none] (b.sto ++ R) = .ok [.int (1 + m)] (b1.sto ++ R) := by
    rw [q_cons, q_bin, q_cst, q_bok, q_call, q_cons, q_slot]
    show Out.bind (Out.bind (Pd.run T (n + 5) 22 0 [.ref 3, .int 6] (b.sto ++ R)) _) _ = _
    rw [e]
    rfl
  have hl : ∀ C : Cx, C = CC n → evE C (.lc [13] (.nm 13) .range [.bin .add (.cst (.int 1)) (.call 22 [.slot 0, .cst (.int 6)])] [] (.call 33 [.slot 0])) [some (.ref 3), none, none, none, none, none, none, none, none, none, none, none, none, none] (b.sto ++ R) =
      lcL (.rng 0 (1 + m).toNat) (5 + R.length) (lcTurn (CC n) [13] (.nm 13) [] (.call 33 [.slot 0]) [some (.ref 3), none, none, none, none, none, none, none, none, none, none, none, none, none]) ((1 + m).toNat + 1) 0 (b1.sto ++ (R ++ [.lst []])) := by
    intro C hC
    subst hC
    rw [lc_eval he (show mkSrc (b1.sto ++ R) .range [.int (1 + m)] = some (.rng 0 (1 + m).toNat) from if_pos hb'), sto_len, List.append_assoc]
    rfl
  show Wp (evE (CC n) (.lc [13] (.nm 13) .range [.bin .add (.cst (.int 1)) (.call 22 [.slot 0, .cst (.int 6)])] [] (.call 33 [.slot 0])) [some (.ref 3), none, none, none, none, none, none, none, none, none, none, none, none, none] (b.sto ++ R)) _
  rw [hl _ rfl]
  refine (lc_rng (lo := 0) (m := (1 + m).toNat) (n := 5 + R.length) (fun i acc S => ∃ (c : Bs) (ps : List Pt) (R2 : Sto), c.ok ∧ c.t = b1.t + 4 * i ∧ ps.length = i ∧ (∀ p ∈ ps, PF p ∧ PB 10 p) ∧ acc = ps.map pt ∧ S = c.sto ++ (R ++ .lst (ps.map pt) :: R2)) (by rw [sizeLine_eq]; omega)
    (fun i acc S ⟨c, ps, R2, c1, c2, c3, c4, c5, c6⟩ => by rw [c5, List.length_map, c3]) ?_ (1 + m).toNat 0 [] _ (by omega) ⟨b1, [], [], k1, by omega, rfl, (fun _ h => by cases h), rfl, rfl⟩).imp fun d S' ⟨e1, acc, c, ps, R2, c1, c2, c3, c4, c5, c6⟩ => ?_
  · intro i acc S hi ⟨c, ps, R2, c1, c2, c3, c4, c5, c6⟩
    subst c5 c6
    refine turn_wp (σ1 := [some (.ref 3), none, none, none, none, none, none, none, none, none, none, none, none, some (.int (0 + (i : Int)))]) rfl ?_
    simp only [q_slot, q_cst, q_glo, q_tup, q_lst, q_dic, q_bin, q_neg, q_not, q_cmp, q_ifx, q_isi, q_bi, q_call, q_idx, q_slc, q_append, q_extend, q_and, q_or, q_nil, q_cons, q_none, q_some, q_and1, q_and2, q_andT, q_andF, q_andB, q_or1, q_or2, q_orB, q_tval, q_tnot, q_tand, q_tor, q_tcmp, q_tand1, q_tand2, q_tor1, q_tor2, q_cnil, q_ccons, q_set, q_par, q_setix, q_ex, q_ret, q_retN, q_iff, q_pass, q_brk, q_cont, q_bnil, q_nextN, q_nextR, q_nextK, q_nextC, q_bok, q_getS, q_getO, q_t0, q_t1, q_t2, q_t3, q_t4, q_l0, q_l1, q_l2, q_l3, q_l4, q_l5, q_l6, q_l8, q_negI, q_notS, q_okB, q_okI, q_nxO, q_nxS, q_mkNon, q_iteT, q_iteF, q_ofB, q_addI, q_subI, q_mulI, q_fdivI, q_modI, q_powI, q_addT, q_eqI, q_neI, q_ltI, q_leI, q_gtI, q_geI, q_eqB, q_neB, q_eqS, q_neS, q_isB, q_isnB, q_isN, q_isnN, q_truB, q_truI, q_isiI, q_isiB, q_isiS, q_isiT, q_isiN, q_lenT, q_gcd, q_abs, q_max, q_min, q_int, q_tupT, q_listT, q_ixT, q_ixL, q_at0, q_at1, q_at2, q_at3, q_at4, q_nm, q_tp, q_asn, q_asc, q_pn, q_pc, wp_bind, wp_ok, List.map_cons, List.map_nil, List.replicate, List.cons_append, List.nil_append, List.append_nil, List.getElem?_cons_zero, List.getElem?_cons_succ, List.set_cons_zero, List.set_cons_succ, List.length_cons, List.length_nil, if_true, if_false, Nat.reduceAdd, Nat.reduceSub, Nat.reduceLT, Nat.reduceLeDiff, Nat.zero_add, Nat.lt_add_one, Nat.zero_lt_succ, decide_true, decide_false, Bool.not_true, Bool.not_false, ne_eq, not_false_eq_true, not_true_eq_false, Int.reduceEq, Int.reduceNe, Int.reduceLT, Int.reduceLE, Int.reduceNeg, Int.reduceToNat, Nat.reducePow, Nat.reduceEqDiff, Bool.false_eq_true, Bool.true_eq_false, List.any_cons, List.any_nil, Bool.or_false, Bool.or_true, Bool.false_or, Bool.true_or, Ty.sub, Int.cast_ofNat_Int, Int.natCast_zero, Int.natCast_one, eq_self]
    refine (drawn_ok (n := n + 1) (R := R ++ .lst (ps.map pt) :: R2) c1 (by omega)).imp fun d S' ⟨p, c', R', e1, hp, bp, e2, d1, d2⟩ => ?_
    subst e1 e2
    simp only [List.append_assoc, List.cons_append]
    refine ⟨_, rfl, get_at, c', ps ++ [p], _, d1, by omega, by rw [List.length_append, c3]; rfl, ?_, by rw [List.map_append]; rfl, by rw [set_at, List.map_append]; rfl⟩
    intro z hz
    rcases List.mem_append.mp hz with h | h
    · exact c4 z h
    · obtain rfl := List.mem_singleton.mp h
      exact ⟨hp, bp⟩
  · subst e1 c6
    have h0 : 0 < ps.length := by omega
    have h6 : ps.length ≤ 6 := by omega
    simp only [q_slot, q_cst, q_glo, q_tup, q_lst, q_dic, q_bin, q_neg, q_not, q_cmp, q_ifx, q_isi, q_bi, q_call, q_idx, q_slc, q_append, q_extend, q_and, q_or, q_nil, q_cons, q_none, q_some, q_and1, q_and2, q_andT, q_andF, q_andB, q_or1, q_or2, q_orB, q_tval, q_tnot, q_tand, q_tor, q_tcmp, q_tand1, q_tand2, q_tor1, q_tor2, q_cnil, q_ccons, q_set, q_par, q_setix, q_ex, q_ret, q_retN, q_iff, q_pass, q_brk, q_cont, q_bnil, q_nextN, q_nextR, q_nextK, q_nextC, q_bok, q_getS, q_getO, q_t0, q_t1, q_t2, q_t3, q_t4, q_l0, q_l1, q_l2, q_l3, q_l4, q_l5, q_l6, q_l8, q_negI, q_notS, q_okB, q_okI, q_nxO, q_nxS, q_mkNon, q_iteT, q_iteF, q_ofB, q_addI, q_subI, q_mulI, q_fdivI, q_modI, q_powI, q_addT, q_eqI, q_neI, q_ltI, q_leI, q_gtI, q_geI, q_eqB, q_neB, q_eqS, q_neS, q_isB, q_isnB, q_isN, q_isnN, q_truB, q_truI, q_isiI, q_isiB, q_isiS, q_isiT, q_isiN, q_lenT, q_gcd, q_abs, q_max, q_min, q_int, q_tupT, q_listT, q_ixT, q_ixL, q_at0, q_at1, q_at2, q_at3, q_at4, q_nm, q_tp, q_asn, q_asc, q_pn, q_pc, wp_bind, wp_ok, List.map_cons, List.map_nil, List.replicate, List.cons_append, List.nil_append, List.append_nil, List.getElem?_cons_zero, List.getElem?_cons_succ, List.set_cons_zero, List.set_cons_succ, List.length_cons, List.length_nil, if_true, if_false, Nat.reduceAdd, Nat.reduceSub, Nat.reduceLT, Nat.reduceLeDiff, Nat.zero_add, Nat.lt_add_one, Nat.zero_lt_succ, decide_true, decide_false, Bool.not_true, Bool.not_false, ne_eq, not_false_eq_true, not_true_eq_false, Int.reduceEq, Int.reduceNe, Int.reduceLT, Int.reduceLE, Int.reduceNeg, Int.reduceToNat, Nat.reducePow, Nat.reduceEqDiff, Bool.false_eq_true, Bool.true_eq_false, List.any_cons, List.any_nil, Bool.or_false, Bool.or_true, Bool.false_or, Bool.true_or, Ty.sub, Int.cast_ofNat_Int, Int.natCast_zero, Int.natCast_one, eq_self]
    refine wp_b ?_
    obtain ⟨f, hf, i1⟩ := atI_map (f := pt) (xs := ps) (i := 0) (by decide) (by omega)
    obtain ⟨g, hg, i2⟩ := atI_neg (f := pt) h0
    have ix := fun (i : Int) => q_ixL (i := i) (items_at (b := c) (R := R) (R2 := R2) (xs := ps.map pt))
    simp only [q_slot, q_cst, q_glo, q_tup, q_lst, q_dic, q_bin, q_neg, q_not, q_cmp, q_ifx, q_isi, q_bi, q_call, q_idx, q_slc, q_append, q_extend, q_and, q_or, q_nil, q_cons, q_none, q_some, q_and1, q_and2, q_andT, q_andF, q_andB, q_or1, q_or2, q_orB, q_tval, q_tnot, q_tand, q_tor, q_tcmp, q_tand1, q_tand2, q_tor1, q_tor2, q_cnil, q_ccons, q_set, q_par, q_setix, q_ex, q_ret, q_retN, q_iff, q_pass, q_brk, q_cont, q_bnil, q_nextN, q_nextR, q_nextK, q_nextC, q_bok, q_getS, q_getO, q_t0, q_t1, q_t2, q_t3, q_t4, q_l0, q_l1, q_l2, q_l3, q_l4, q_l5, q_l6, q_l8, q_negI, q_notS, q_okB, q_okI, q_nxO, q_nxS, q_mkNon, q_iteT, q_iteF, q_ofB, q_addI, q_subI, q_mulI, q_fdivI, q_modI, q_powI, q_addT, q_eqI, q_neI, q_ltI, q_leI, q_gtI, q_geI, q_eqB, q_neB, q_eqS, q_neS, q_isB, q_isnB, q_isN, q_isnN, q_truB, q_truI, q_isiI, q_isiB, q_isiS, q_isiT, q_isiN, q_lenT, q_gcd, q_abs, q_max, q_min, q_int, q_tupT, q_listT, q_ixT, q_ixL, q_at0, q_at1, q_at2, q_at3, q_at4, q_nm, q_tp, q_asn, q_asc, q_pn, q_pc, wp_bind, wp_ok, List.map_cons, List.map_nil, List.replicate, List.cons_append, List.nil_append, List.append_nil, List.getElem?_cons_zero, List.getElem?_cons_succ, List.set_cons_zero, List.set_cons_succ, List.length_cons, List.length_nil, if_true, if_false, Nat.reduceAdd, Nat.reduceSub, Nat.reduceLT, Nat.reduceLeDiff, Nat.zero_add, Nat.lt_add_one, Nat.zero_lt_succ, decide_true, decide_false, Bool.not_true, Bool.not_false, ne_eq, not_false_eq_true, not_true_eq_false, Int.reduceEq, Int.reduceNe, Int.reduceLT, Int.reduceLE, Int.reduceNeg, Int.reduceToNat, Nat.reducePow, Nat.reduceEqDiff, Bool.false_eq_true, Bool.true_eq_false, List.any_cons, List.any_nil, Bool.or_false, Bool.or_true, Bool.false_or, Bool.true_or, Ty.sub, Int.cast_ofNat_Int, Int.natCast_zero, Int.natCast_one, eq_self, ix, i1, i2]
    refine wp_b ?_
    simp only [q_slot, q_cst, q_glo, q_tup, q_lst, q_dic, q_bin, q_neg, q_not, q_cmp, q_ifx, q_isi, q_bi, q_call, q_idx, q_slc, q_append, q_extend, q_and, q_or, q_nil, q_cons, q_none, q_some, q_and1, q_and2, q_andT, q_andF, q_andB, q_or1, q_or2, q_orB, q_tval, q_tnot, q_tand, q_tor, q_tcmp, q_tand1, q_tand2, q_tor1, q_tor2, q_cnil, q_ccons, q_set, q_par, q_setix, q_ex, q_ret, q_retN, q_iff, q_pass, q_brk, q_cont, q_bnil, q_nextN, q_nextR, q_nextK, q_nextC, q_bok, q_getS, q_getO, q_t0, q_t1, q_t2, q_t3, q_t4, q_l0, q_l1, q_l2, q_l3, q_l4, q_l5, q_l6, q_l8, q_negI, q_notS, q_okB, q_okI, q_nxO, q_nxS, q_mkNon, q_iteT, q_iteF, q_ofB, q_addI, q_subI, q_mulI, q_fdivI, q_modI, q_powI, q_addT, q_eqI, q_neI, q_ltI, q_leI, q_gtI, q_geI, q_eqB, q_neB, q_eqS, q_neS, q_isB, q_isnB, q_isN, q_isnN, q_truB, q_truI, q_isiI, q_isiB, q_isiS, q_isiT, q_isiN, q_lenT, q_gcd, q_abs, q_max, q_min, q_int, q_tupT, q_listT, q_ixT, q_ixL, q_at0, q_at1, q_at2, q_at3, q_at4, q_nm, q_tp, q_asn, q_asc, q_pn, q_pc, wp_bind, wp_ok, List.map_cons, List.map_nil, List.replicate, List.cons_append, List.nil_append, List.append_nil, List.getElem?_cons_zero, List.getElem?_cons_succ, List.set_cons_zero, List.set_cons_succ, List.length_cons, List.length_nil, if_true, if_false, Nat.reduceAdd, Nat.reduceSub, Nat.reduceLT, Nat.reduceLeDiff, Nat.zero_add, Nat.lt_add_one, Nat.zero_lt_succ, decide_true, decide_false, Bool.not_true, Bool.not_false, ne_eq, not_false_eq_true, not_true_eq_false, Int.reduceEq, Int.reduceNe, Int.reduceLT, Int.reduceLE, Int.reduceNeg, Int.reduceToNat, Nat.reducePow, Nat.reduceEqDiff, Bool.false_eq_true, Bool.true_eq_false, List.any_cons, List.any_nil, Bool.or_false, Bool.or_true, Bool.false_or, Bool.true_or, Ty.sub, Int.cast_ofNat_Int, Int.natCast_zero, Int.natCast_one, eq_self]
    refine (draw_ok (n := n + 3) hDraw hMixed c1 (by omega) (by decide) (.c rfl)).imp fun d S' ⟨v, c', e1, v0, v1, e2, d1, d2⟩ => ?_
    subst e1 e2
    try simp only [q_slot, q_cst, q_glo, q_tup, q_lst, q_dic, q_bin, q_neg, q_not, q_cmp, q_ifx, q_isi, q_bi, q_call, q_idx, q_slc, q_append, q_extend, q_and, q_or, q_nil, q_cons, q_none, q_some, q_and1, q_and2, q_andT, q_andF, q_andB, q_or1, q_or2, q_orB, q_tval, q_tnot, q_tand, q_tor, q_tcmp, q_tand1, q_tand2, q_tor1, q_tor2, q_cnil, q_ccons, q_set, q_par, q_setix, q_ex, q_ret, q_retN, q_iff, q_pass, q_brk, q_cont, q_bnil, q_nextN, q_nextR, q_nextK, q_nextC, q_bok, q_getS, q_getO, q_t0, q_t1, q_t2, q_t3, q_t4, q_l0, q_l1, q_l2, q_l3, q_l4, q_l5, q_l6, q_l8, q_negI, q_notS, q_okB, q_okI, q_nxO, q_nxS, q_mkNon, q_iteT, q_iteF, q_ofB, q_addI, q_subI, q_mulI, q_fdivI, q_modI, q_powI, q_addT, q_eqI, q_neI, q_ltI, q_leI, q_gtI, q_geI, q_eqB, q_neB, q_eqS, q_neS, q_isB, q_isnB, q_isN, q_isnN, q_truB, q_truI, q_isiI, q_isiB, q_isiS, q_isiT, q_isiN, q_lenT, q_gcd, q_abs, q_max, q_min, q_int, q_tupT, q_listT, q_ixT, q_ixL, q_at0, q_at1, q_at2, q_at3, q_at4, q_nm, q_tp, q_asn, q_asc, q_pn, q_pc, wp_bind, wp_ok, List.map_cons, List.map_nil, List.replicate, List.cons_append, List.nil_append, List.append_nil, List.getElem?_cons_zero, List.getElem?_cons_succ, List.set_cons_zero, List.set_cons_succ, List.length_cons, List.length_nil, if_true, if_false, Nat.reduceAdd, Nat.reduceSub, Nat.reduceLT, Nat.reduceLeDiff, Nat.zero_add, Nat.lt_add_one, Nat.zero_lt_succ, decide_true, decide_false, Bool.not_true, Bool.not_false, ne_eq, not_false_eq_true, not_true_eq_false, Int.reduceEq, Int.reduceNe, Int.reduceLT, Int.reduceLE, Int.reduceNeg, Int.reduceToNat, Nat.reducePow, Nat.reduceEqDiff, Bool.false_eq_true, Bool.true_eq_false, List.any_cons, List.any_nil, Bool.or_false, Bool.or_true, Bool.false_or, Bool.true_or, Ty.sub, Int.cast_ofNat_Int, Int.natCast_zero, Int.natCast_one, eq_self]
    refine (draw_ok (n := n + 3) hDraw hMixed d1 (by omega) (by decide) (.c rfl)).imp fun d S' ⟨w, c'', e1, w0, w1, e2, d3, d4⟩ => ?_
    subst e1 e2
    have bv : Bt 10 (v - 6) := .of (by omega) (by omega)
    have bw : Bt 10 (1 + w) := .of (by omega) (by omega)
    have hw : 1 + w ≠ 0 := by omega
    have e := fun lo S => hShare (n + 3) lo S (v - 6) (1 + w) hw (bv.mono (by decide)) (bw.mono (by decide))
    simp only [q_slot, q_cst, q_glo, q_tup, q_lst, q_dic, q_bin, q_neg, q_not, q_cmp, q_ifx, q_isi, q_bi, q_call, q_idx, q_slc, q_append, q_extend, q_and, q_or, q_nil, q_cons, q_none, q_some, q_and1, q_and2, q_andT, q_andF, q_andB, q_or1, q_or2, q_orB, q_tval, q_tnot, q_tand, q_tor, q_tcmp, q_tand1, q_tand2, q_tor1, q_tor2, q_cnil, q_ccons, q_set, q_par, q_setix, q_ex, q_ret, q_retN, q_iff, q_pass, q_brk, q_cont, q_bnil, q_nextN, q_nextR, q_nextK, q_nextC, q_bok, q_getS, q_getO, q_t0, q_t1, q_t2, q_t3, q_t4, q_l0, q_l1, q_l2, q_l3, q_l4, q_l5, q_l6, q_l8, q_negI, q_notS, q_okB, q_okI, q_nxO, q_nxS, q_mkNon, q_iteT, q_iteF, q_ofB, q_addI, q_subI, q_mulI, q_fdivI, q_modI, q_powI, q_addT, q_eqI, q_neI, q_ltI, q_leI, q_gtI, q_geI, q_eqB, q_neB, q_eqS, q_neS, q_isB, q_isnB, q_isN, q_isnN, q_truB, q_truI, q_isiI, q_isiB, q_isiS, q_isiT, q_isiN, q_lenT, q_gcd, q_abs, q_max, q_min, q_int, q_tupT, q_listT, q_ixT, q_ixL, q_at0, q_at1, q_at2, q_at3, q_at4, q_nm, q_tp, q_asn, q_asc, q_pn, q_pc, wp_bind, wp_ok, List.map_cons, List.map_nil, List.replicate, List.cons_append, List.nil_append, List.append_nil, List.getElem?_cons_zero, List.getElem?_cons_succ, List.set_cons_zero, List.set_cons_succ, List.length_cons, List.length_nil, if_true, if_false, Nat.reduceAdd, Nat.reduceSub, Nat.reduceLT, Nat.reduceLeDiff, Nat.zero_add, Nat.lt_add_one, Nat.zero_lt_succ, decide_true, decide_false, Bool.not_true, Bool.not_false, ne_eq, not_false_eq_true, not_true_eq_false, Int.reduceEq, Int.reduceNe, Int.reduceLT, Int.reduceLE, Int.reduceNeg, Int.reduceToNat, Nat.reducePow, Nat.reduceEqDiff, Bool.false_eq_true, Bool.true_eq_false, List.any_cons, List.any_nil, Bool.or_false, Bool.or_true, Bool.false_or, Bool.true_or, Ty.sub, Int.cast_ofNat_Int, Int.natCast_zero, Int.natCast_one, eq_self, e]
    refine mid_ok (n := n) (c4 f hf).1 (c4 g hg).1 (red_fr hw) (c4 f hf).2 (c4 g hg).2 (bf_red hw bv bw) fun b3 b4 b5 X => ?_
    rw [List.append_assoc, List.append_assoc, List.cons_append]
    refine (tail_ok (n := n) c4 h0 h6 d3 (by omega)).imp fun fl S' ⟨e1, b', R', e2, d5, d6⟩ => ?_
    subst e1 e2
    exact wp_ok.mpr ⟨rfl, b', R', rfl, d5, by omega⟩
end K01
namespace K01
open PySem Pd
abbrev CE (n : Nat) : Cx := ⟨Pd.run T (n + 6), T.glo, fun g => match T.fns[g]? with | some fn => fn.np | none => 0, 0⟩
def pA : Pt := ((1, 2), (0, 1))
def pB : Pt := ((-1, 1), (2, 3))
theorem mF (a b : Int) (h : 0 < b) (g : gcdI a b = 1) : Fr (a, b) := ⟨h, g⟩
theorem mB (a b : Int) (h : a.natAbs < 2 ^ 10) (g : b.natAbs < 2 ^ 10) : Bf 10 (a, b) := ⟨h, g⟩
theorem fA : PF pA := ⟨mF _ _ (by decide) (by decide +kernel), mF _ _ (by decide) (by decide +kernel)⟩
theorem fB : PF pB := ⟨mF _ _ (by decide) (by decide +kernel), mF _ _ (by decide) (by decide +kernel)⟩
theorem qA : PB 10 pA := ⟨mB _ _ (by decide) (by decide), mB _ _ (by decide) (by decide)⟩
theorem qB : PB 10 pB := ⟨mB _ _ (by decide) (by decide), mB _ _ (by decide) (by decide)⟩
theorem f2 : Fr (-2, 1) := mF _ _ (by decide) (by decide +kernel)
theorem q2 : Bf 10 (-2, 1) := mB _ _ (by decide) (by decide)
theorem v1 : mapP addF pA pB = ((-1, 2), (2, 3)) := by decide +kernel
theorem v2 : mapS mulF pA (-2, 1) = ((-1, 1), (0, 1)) := by decide +kernel
theorem v3 : gapF pA pB = (97, 36) := by decide +kernel
theorem v4 : meanF [pA, pB] = ((-1, 4), (1, 3)) := by decide +kernel
abbrev sg (x : Option D) (y z : Option D) : Pd.Env := [some (.ref 0), some (.ref 3), x, y, z, some (pt pA), some (pt pB)]
theorem hcal {n : Nat} : (CE n).cal = Pd.run T (n + 6) := rfl
theorem hlo {n : Nat} : (CE n).lo = 0 := rfl
theorem k1 {n : Nat} {x y z : Option D} {S : Sto} : evE (CE n) (.callk 16 [] [1, 0] [.slot 6, .slot 5]) (sg x y z) S = .ok (pt ((-1, 2), (2, 3))) S := by
  have w : evs (CE n) [.slot 6, .slot 5] (sg x y z) S = .ok [pt pB, pt pA] S := rfl
  have f : fill ([] : List D) [1, 0] [pt pB, pt pA] ((CE n).np 16) 0 = some [pt pA, pt pB] := rfl
  have e := callk_eval (C := CE n) (σ := sg x y z) (S := S) (S1 := S) (es := []) (ds := []) rfl w f
  have h := plus_ok (n := n + 1) (lo := 0) (S := S) fA fB (qA.mono (by decide)) (qB.mono (by decide))
  rw [v1] at h
  rw [hcal, hlo, h] at e
  exact e
theorem k2 {n : Nat} {x y z : Option D} {S : Sto} : evE (CE n) (.callk 17 [] [1, 0] [.tup [.neg (.cst (.int 2)), .cst (.int 1)], .slot 5]) (sg x y z) S = .ok (pt ((-1, 1), (0, 1))) S := by
  have w : evs (CE n) [.tup [.neg (.cst (.int 2)), .cst (.int 1)], .slot 5] (sg x y z) S = .ok [fr (-2, 1), pt pA] S := rfl
  have f : fill ([] : List D) [1, 0] [fr (-2, 1), pt pA] ((CE n).np 17) 0 = some [pt pA, fr (-2, 1)] := rfl
  have e := callk_eval (C := CE n) (σ := sg x y z) (S := S) (S1 := S) (es := []) (ds := []) rfl w f
  have h := times_ok (n := n + 1) (lo := 0) (S := S) fA f2 (qA.mono (by decide)) (q2.mono (by decide))
  rw [v2] at h
  rw [hcal, hlo, h] at e
  exact e
theorem k3 {n : Nat} {x y z : Option D} {S : Sto} : evE (CE n) (.callk 18 [] [1, 0] [.slot 6, .slot 5]) (sg x y z) S = .ok (fr (97, 36)) S := by
  have w : evs (CE n) [.slot 6, .slot 5] (sg x y z) S = .ok [pt pB, pt pA] S := rfl
  have f : fill ([] : List D) [1, 0] [pt pB, pt pA] ((CE n).np 18) 0 = some [pt pA, pt pB] := rfl
  have e := callk_eval (C := CE n) (σ := sg x y z) (S := S) (S1 := S) (es := []) (ds := []) rfl w f
  have h := squared_ok (n := n + 1) (lo := 0) (S := S) fA fB (qA.mono (by decide)) (qB.mono (by decide))
  rw [v3] at h
  rw [hcal, hlo, h] at e
  exact e
theorem k4 {n : Nat} {x y z : Option D} {S : Sto} : evE (CE n) (.callk 19 [] [0] [.tup [.slot 5, .slot 6]]) (sg x y z) S = .ok (pt ((-1, 4), (1, 3))) S := by
  have w : evs (CE n) [.tup [.slot 5, .slot 6]] (sg x y z) S = .ok [.tup ([pA, pB].map pt)] S := rfl
  have f : fill ([] : List D) [0] [.tup ([pA, pB].map pt)] ((CE n).np 19) 0 = some [.tup ([pA, pB].map pt)] := rfl
  have e := callk_eval (C := CE n) (σ := sg x y z) (S := S) (S1 := S) (es := []) (ds := []) rfl w f
  have h := mean_ok' (n := n + 1) (lo := 0) (S := S) (ps := [pA, pB]) (fun p hp => by
    rcases List.mem_cons.mp hp with rfl | hp
    · exact ⟨fA, qA⟩
    · obtain rfl := List.mem_singleton.mp hp
      exact ⟨fB, qB⟩) (by decide) (by decide)
  rw [v4] at h
  rw [hcal, hlo, h] at e
  exact e
theorem k5 {n : Nat} {x y z : Option D} {S : Sto} : evE (CE n) (.callk 15 [] [0] [.slot 6]) (sg x y z) S = .ok (pt pB) S := by
  have w : evs (CE n) [.slot 6] (sg x y z) S = .ok [pt pB] S := rfl
  have f : fill ([] : List D) [0] [pt pB] ((CE n).np 15) 0 = some [pt pB] := rfl
  have e := callk_eval (C := CE n) (σ := sg x y z) (S := S) (S1 := S) (es := []) (ds := []) rfl w f
  have h := need_ok' (n := n + 1) (lo := 0) (S := S) fB
  rw [hcal, hlo, h] at e
  exact e
abbrev X5 : List D := [pt ((-1, 2), (2, 3)), pt ((-1, 1), (0, 1)), fr (97, 36), pt ((-1, 4), (1, 3)), pt pB]
theorem end_ok {n : Nat} {x y z u v : Option D} {S0 : Sto} : Wp (evB (CE n) (b35.drop 2) [some (.ref 0), some (.ref 3), x, y, z, u, v] S0) fun fl _ => fl = .rt (.bl true) := by
  show Wp (evB (CE n) (_ :: _) _ _) _
  refine wp_b ?_
  have p1 : D.tup [.tup [.int 1, .int 2], .tup [.int 0, .int 1]] = pt pA := rfl
  have p2 : D.tup [.tup [.int (-1), .int 1], .tup [.int 2, .int 3]] = pt pB := rfl
  simp only [q_slot, q_cst, q_glo, q_tup, q_lst, q_dic, q_bin, q_neg, q_not, q_cmp, q_ifx, q_isi, q_bi, q_call, q_idx, q_slc, q_append, q_extend, q_and, q_or, q_nil, q_cons, q_none, q_some, q_and1, q_and2, q_andT, q_andF, q_andB, q_or1, q_or2, q_orB, q_tval, q_tnot, q_tand, q_tor, q_tcmp, q_tand1, q_tand2, q_tor1, q_tor2, q_cnil, q_ccons, q_set, q_par, q_setix, q_ex, q_ret, q_retN, q_iff, q_pass, q_brk, q_cont, q_bnil, q_nextN, q_nextR, q_nextK, q_nextC, q_bok, q_getS, q_getO, q_t0, q_t1, q_t2, q_t3, q_t4, q_l0, q_l1, q_l2, q_l3, q_l4, q_l5, q_l6, q_l8, q_negI, q_notS, q_okB, q_okI, q_nxO, q_nxS, q_mkNon, q_iteT, q_iteF, q_ofB, q_addI, q_subI, q_mulI, q_fdivI, q_modI, q_powI, q_addT, q_eqI, q_neI, q_ltI, q_leI, q_gtI, q_geI, q_eqB, q_neB, q_eqS, q_neS, q_isB, q_isnB, q_isN, q_isnN, q_truB, q_truI, q_isiI, q_isiB, q_isiS, q_isiT, q_isiN, q_lenT, q_gcd, q_abs, q_max, q_min, q_int, q_tupT, q_listT, q_ixT, q_ixL, q_at0, q_at1, q_at2, q_at3, q_at4, q_nm, q_tp, q_asn, q_asc, q_pn, q_pc, wp_bind, wp_ok, List.map_cons, List.map_nil, List.replicate, List.cons_append, List.nil_append, List.append_nil, List.getElem?_cons_zero, List.getElem?_cons_succ, List.set_cons_zero, List.set_cons_succ, List.length_cons, List.length_nil, if_true, if_false, Nat.reduceAdd, Nat.reduceSub, Nat.reduceLT, Nat.reduceLeDiff, Nat.zero_add, Nat.lt_add_one, Nat.zero_lt_succ, decide_true, decide_false, Bool.not_true, Bool.not_false, ne_eq, not_false_eq_true, not_true_eq_false, Int.reduceEq, Int.reduceNe, Int.reduceLT, Int.reduceLE, Int.reduceNeg, Int.reduceToNat, Nat.reducePow, Nat.reduceEqDiff, Bool.false_eq_true, Bool.true_eq_false, List.any_cons, List.any_nil, Bool.or_false, Bool.or_true, Bool.false_or, Bool.true_or, Ty.sub, Int.cast_ofNat_Int, Int.natCast_zero, Int.natCast_one, eq_self, p1, p2]
  refine wp_b ?_
  have e1 := @k1 n x y z
  have e2 := @k2 n x y z
  have e3 := @k3 n x y z
  simp only [q_slot, q_cst, q_glo, q_tup, q_lst, q_dic, q_bin, q_neg, q_not, q_cmp, q_ifx, q_isi, q_bi, q_call, q_idx, q_slc, q_append, q_extend, q_and, q_or, q_nil, q_cons, q_none, q_some, q_and1, q_and2, q_andT, q_andF, q_andB, q_or1, q_or2, q_orB, q_tval, q_tnot, q_tand, q_tor, q_tcmp, q_tand1, q_tand2, q_tor1, q_tor2, q_cnil, q_ccons, q_set, q_par, q_setix, q_ex, q_ret, q_retN, q_iff, q_pass, q_brk, q_cont, q_bnil, q_nextN, q_nextR, q_nextK, q_nextC, q_bok, q_getS, q_getO, q_t0, q_t1, q_t2, q_t3, q_t4, q_l0, q_l1, q_l2, q_l3, q_l4, q_l5, q_l6, q_l8, q_negI, q_notS, q_okB, q_okI, q_nxO, q_nxS, q_mkNon, q_iteT, q_iteF, q_ofB, q_addI, q_subI, q_mulI, q_fdivI, q_modI, q_powI, q_addT, q_eqI, q_neI, q_ltI, q_leI, q_gtI, q_geI, q_eqB, q_neB, q_eqS, q_neS, q_isB, q_isnB, q_isN, q_isnN, q_truB, q_truI, q_isiI, q_isiB, q_isiS, q_isiT, q_isiN, q_lenT, q_gcd, q_abs, q_max, q_min, q_int, q_tupT, q_listT, q_ixT, q_ixL, q_at0, q_at1, q_at2, q_at3, q_at4, q_nm, q_tp, q_asn, q_asc, q_pn, q_pc, wp_bind, wp_ok, List.map_cons, List.map_nil, List.replicate, List.cons_append, List.nil_append, List.append_nil, List.getElem?_cons_zero, List.getElem?_cons_succ, List.set_cons_zero, List.set_cons_succ, List.length_cons, List.length_nil, if_true, if_false, Nat.reduceAdd, Nat.reduceSub, Nat.reduceLT, Nat.reduceLeDiff, Nat.zero_add, Nat.lt_add_one, Nat.zero_lt_succ, decide_true, decide_false, Bool.not_true, Bool.not_false, ne_eq, not_false_eq_true, not_true_eq_false, Int.reduceEq, Int.reduceNe, Int.reduceLT, Int.reduceLE, Int.reduceNeg, Int.reduceToNat, Nat.reducePow, Nat.reduceEqDiff, Bool.false_eq_true, Bool.true_eq_false, List.any_cons, List.any_nil, Bool.or_false, Bool.or_true, Bool.false_or, Bool.true_or, Ty.sub, Int.cast_ofNat_Int, Int.natCast_zero, Int.natCast_one, eq_self, e1, e2, e3]
  refine wp_b ?_
  have a1 := addN (S0 := S0) (L := [SO.lst [pt ((-1, 2), (2, 3)), pt ((-1, 1), (0, 1)), fr (97, 36)], .lst [pt ((-1, 4), (1, 3)), pt pB]]) (i := 0) (j := 1) rfl rfl (by rw [sizeLine_eq]; show 5 ≤ 16777216; decide)
  simp only [q_slot, q_cst, q_glo, q_tup, q_lst, q_dic, q_bin, q_neg, q_not, q_cmp, q_ifx, q_isi, q_bi, q_call, q_idx, q_slc, q_append, q_extend, q_and, q_or, q_nil, q_cons, q_none, q_some, q_and1, q_and2, q_andT, q_andF, q_andB, q_or1, q_or2, q_orB, q_tval, q_tnot, q_tand, q_tor, q_tcmp, q_tand1, q_tand2, q_tor1, q_tor2, q_cnil, q_ccons, q_set, q_par, q_setix, q_ex, q_ret, q_retN, q_iff, q_pass, q_brk, q_cont, q_bnil, q_nextN, q_nextR, q_nextK, q_nextC, q_bok, q_getS, q_getO, q_t0, q_t1, q_t2, q_t3, q_t4, q_l0, q_l1, q_l2, q_l3, q_l4, q_l5, q_l6, q_l8, q_negI, q_notS, q_okB, q_okI, q_nxO, q_nxS, q_mkNon, q_iteT, q_iteF, q_ofB, q_addI, q_subI, q_mulI, q_fdivI, q_modI, q_powI, q_addT, q_eqI, q_neI, q_ltI, q_leI, q_gtI, q_geI, q_eqB, q_neB, q_eqS, q_neS, q_isB, q_isnB, q_isN, q_isnN, q_truB, q_truI, q_isiI, q_isiB, q_isiS, q_isiT, q_isiN, q_lenT, q_gcd, q_abs, q_max, q_min, q_int, q_tupT, q_listT, q_ixT, q_ixL, q_at0, q_at1, q_at2, q_at3, q_at4, q_nm, q_tp, q_asn, q_asc, q_pn, q_pc, wp_bind, wp_ok, List.map_cons, List.map_nil, List.replicate, List.cons_append, List.nil_append, List.append_nil, List.getElem?_cons_zero, List.getElem?_cons_succ, List.set_cons_zero, List.set_cons_succ, List.length_cons, List.length_nil, if_true, if_false, Nat.reduceAdd, Nat.reduceSub, Nat.reduceLT, Nat.reduceLeDiff, Nat.zero_add, Nat.lt_add_one, Nat.zero_lt_succ, decide_true, decide_false, Bool.not_true, Bool.not_false, ne_eq, not_false_eq_true, not_true_eq_false, Int.reduceEq, Int.reduceNe, Int.reduceLT, Int.reduceLE, Int.reduceNeg, Int.reduceToNat, Nat.reducePow, Nat.reduceEqDiff, Bool.false_eq_true, Bool.true_eq_false, List.any_cons, List.any_nil, Bool.or_false, Bool.or_true, Bool.false_or, Bool.true_or, Ty.sub, Int.cast_ofNat_Int, Int.natCast_zero, Int.natCast_one, eq_self, Nat.add_zero, List.append_assoc, List.length_append] at a1
  have e4 := @k4 n x (some (.ref S0.length)) z
  have e5 := @k5 n x (some (.ref S0.length)) z
  simp only [q_slot, q_cst, q_glo, q_tup, q_lst, q_dic, q_bin, q_neg, q_not, q_cmp, q_ifx, q_isi, q_bi, q_call, q_idx, q_slc, q_append, q_extend, q_and, q_or, q_nil, q_cons, q_none, q_some, q_and1, q_and2, q_andT, q_andF, q_andB, q_or1, q_or2, q_orB, q_tval, q_tnot, q_tand, q_tor, q_tcmp, q_tand1, q_tand2, q_tor1, q_tor2, q_cnil, q_ccons, q_set, q_par, q_setix, q_ex, q_ret, q_retN, q_iff, q_pass, q_brk, q_cont, q_bnil, q_nextN, q_nextR, q_nextK, q_nextC, q_bok, q_getS, q_getO, q_t0, q_t1, q_t2, q_t3, q_t4, q_l0, q_l1, q_l2, q_l3, q_l4, q_l5, q_l6, q_l8, q_negI, q_notS, q_okB, q_okI, q_nxO, q_nxS, q_mkNon, q_iteT, q_iteF, q_ofB, q_addI, q_subI, q_mulI, q_fdivI, q_modI, q_powI, q_addT, q_eqI, q_neI, q_ltI, q_leI, q_gtI, q_geI, q_eqB, q_neB, q_eqS, q_neS, q_isB, q_isnB, q_isN, q_isnN, q_truB, q_truI, q_isiI, q_isiB, q_isiS, q_isiT, q_isiN, q_lenT, q_gcd, q_abs, q_max, q_min, q_int, q_tupT, q_listT, q_ixT, q_ixL, q_at0, q_at1, q_at2, q_at3, q_at4, q_nm, q_tp, q_asn, q_asc, q_pn, q_pc, wp_bind, wp_ok, List.map_cons, List.map_nil, List.replicate, List.cons_append, List.nil_append, List.append_nil, List.getElem?_cons_zero, List.getElem?_cons_succ, List.set_cons_zero, List.set_cons_succ, List.length_cons, List.length_nil, if_true, if_false, Nat.reduceAdd, Nat.reduceSub, Nat.reduceLT, Nat.reduceLeDiff, Nat.zero_add, Nat.lt_add_one, Nat.zero_lt_succ, decide_true, decide_false, Bool.not_true, Bool.not_false, ne_eq, not_false_eq_true, not_true_eq_false, Int.reduceEq, Int.reduceNe, Int.reduceLT, Int.reduceLE, Int.reduceNeg, Int.reduceToNat, Nat.reducePow, Nat.reduceEqDiff, Bool.false_eq_true, Bool.true_eq_false, List.any_cons, List.any_nil, Bool.or_false, Bool.or_true, Bool.false_or, Bool.true_or, Ty.sub, Int.cast_ofNat_Int, Int.natCast_zero, Int.natCast_one, eq_self, e4, e5, List.append_assoc, List.length_append, a1]
  refine wp_b ?_
  simp only [q_slot, q_cst, q_glo, q_tup, q_lst, q_dic, q_bin, q_neg, q_not, q_cmp, q_ifx, q_isi, q_bi, q_call, q_idx, q_slc, q_append, q_extend, q_and, q_or, q_nil, q_cons, q_none, q_some, q_and1, q_and2, q_andT, q_andF, q_andB, q_or1, q_or2, q_orB, q_tval, q_tnot, q_tand, q_tor, q_tcmp, q_tand1, q_tand2, q_tor1, q_tor2, q_cnil, q_ccons, q_set, q_par, q_setix, q_ex, q_ret, q_retN, q_iff, q_pass, q_brk, q_cont, q_bnil, q_nextN, q_nextR, q_nextK, q_nextC, q_bok, q_getS, q_getO, q_t0, q_t1, q_t2, q_t3, q_t4, q_l0, q_l1, q_l2, q_l3, q_l4, q_l5, q_l6, q_l8, q_negI, q_notS, q_okB, q_okI, q_nxO, q_nxS, q_mkNon, q_iteT, q_iteF, q_ofB, q_addI, q_subI, q_mulI, q_fdivI, q_modI, q_powI, q_addT, q_eqI, q_neI, q_ltI, q_leI, q_gtI, q_geI, q_eqB, q_neB, q_eqS, q_neS, q_isB, q_isnB, q_isN, q_isnN, q_truB, q_truI, q_isiI, q_isiB, q_isiS, q_isiT, q_isiN, q_lenT, q_gcd, q_abs, q_max, q_min, q_int, q_tupT, q_listT, q_ixT, q_ixL, q_at0, q_at1, q_at2, q_at3, q_at4, q_nm, q_tp, q_asn, q_asc, q_pn, q_pc, wp_bind, wp_ok, List.map_cons, List.map_nil, List.replicate, List.cons_append, List.nil_append, List.append_nil, List.getElem?_cons_zero, List.getElem?_cons_succ, List.set_cons_zero, List.set_cons_succ, List.length_cons, List.length_nil, if_true, if_false, Nat.reduceAdd, Nat.reduceSub, Nat.reduceLT, Nat.reduceLeDiff, Nat.zero_add, Nat.lt_add_one, Nat.zero_lt_succ, decide_true, decide_false, Bool.not_true, Bool.not_false, ne_eq, not_false_eq_true, not_true_eq_false, Int.reduceEq, Int.reduceNe, Int.reduceLT, Int.reduceLE, Int.reduceNeg, Int.reduceToNat, Nat.reducePow, Nat.reduceEqDiff, Bool.false_eq_true, Bool.true_eq_false, List.any_cons, List.any_nil, Bool.or_false, Bool.or_true, Bool.false_or, Bool.true_or, Ty.sub, Int.cast_ofNat_Int, Int.natCast_zero, Int.natCast_one, eq_self, List.append_assoc, List.length_append]
  refine wp_b ?_
  simp only [q_slot, q_cst, q_glo, q_tup, q_lst, q_dic, q_bin, q_neg, q_not, q_cmp, q_ifx, q_isi, q_bi, q_call, q_idx, q_slc, q_append, q_extend, q_and, q_or, q_nil, q_cons, q_none, q_some, q_and1, q_and2, q_andT, q_andF, q_andB, q_or1, q_or2, q_orB, q_tval, q_tnot, q_tand, q_tor, q_tcmp, q_tand1, q_tand2, q_tor1, q_tor2, q_cnil, q_ccons, q_set, q_par, q_setix, q_ex, q_ret, q_retN, q_iff, q_pass, q_brk, q_cont, q_bnil, q_nextN, q_nextR, q_nextK, q_nextC, q_bok, q_getS, q_getO, q_t0, q_t1, q_t2, q_t3, q_t4, q_l0, q_l1, q_l2, q_l3, q_l4, q_l5, q_l6, q_l8, q_negI, q_notS, q_okB, q_okI, q_nxO, q_nxS, q_mkNon, q_iteT, q_iteF, q_ofB, q_addI, q_subI, q_mulI, q_fdivI, q_modI, q_powI, q_addT, q_eqI, q_neI, q_ltI, q_leI, q_gtI, q_geI, q_eqB, q_neB, q_eqS, q_neS, q_isB, q_isnB, q_isN, q_isnN, q_truB, q_truI, q_isiI, q_isiB, q_isiS, q_isiT, q_isiN, q_lenT, q_gcd, q_abs, q_max, q_min, q_int, q_tupT, q_listT, q_ixT, q_ixL, q_at0, q_at1, q_at2, q_at3, q_at4, q_nm, q_tp, q_asn, q_asc, q_pn, q_pc, wp_bind, wp_ok, List.map_cons, List.map_nil, List.replicate, List.cons_append, List.nil_append, List.append_nil, List.getElem?_cons_zero, List.getElem?_cons_succ, List.set_cons_zero, List.set_cons_succ, List.length_cons, List.length_nil, if_true, if_false, Nat.reduceAdd, Nat.reduceSub, Nat.reduceLT, Nat.reduceLeDiff, Nat.zero_add, Nat.lt_add_one, Nat.zero_lt_succ, decide_true, decide_false, Bool.not_true, Bool.not_false, ne_eq, not_false_eq_true, not_true_eq_false, Int.reduceEq, Int.reduceNe, Int.reduceLT, Int.reduceLE, Int.reduceNeg, Int.reduceToNat, Nat.reducePow, Nat.reduceEqDiff, Bool.false_eq_true, Bool.true_eq_false, List.any_cons, List.any_nil, Bool.or_false, Bool.or_true, Bool.false_or, Bool.true_or, Ty.sub, Int.cast_ofNat_Int, Int.natCast_zero, Int.natCast_one, eq_self]
  exact Wp.of (like2 hLike (n := n + 5) (xs := X5) (by rw [get_new]; rfl) (by rw [get_new]; rfl) (fun S => by simp only [ds_pt, ds_fr, ds_nil, Option.map_some]; try rfl) (by decide +kernel) rfl (Nat.le_of_ble_eq_true rfl)) rfl
abbrev depth : Nat := 7
theorem says : Says T depth 35 63 := by
  intro ns hl _
  have : Wp (Pd.run T 7 35 0 [.ref 0] [.frz (ns.map D.int)]) fun d _ => d = .bl true := by
    refine wp_run (n := 6) (fn := ⟨1, 7, false, b35⟩) rfl rfl (wp_b ?_)
    simp only [q_slot, q_cst, q_glo, q_tup, q_lst, q_dic, q_bin, q_neg, q_not, q_cmp, q_ifx, q_isi, q_bi, q_call, q_idx, q_slc, q_append, q_extend, q_and, q_or, q_nil, q_cons, q_none, q_some, q_and1, q_and2, q_andT, q_andF, q_andB, q_or1, q_or2, q_orB, q_tval, q_tnot, q_tand, q_tor, q_tcmp, q_tand1, q_tand2, q_tor1, q_tor2, q_cnil, q_ccons, q_set, q_par, q_setix, q_ex, q_ret, q_retN, q_iff, q_pass, q_brk, q_cont, q_bnil, q_nextN, q_nextR, q_nextK, q_nextC, q_bok, q_getS, q_getO, q_t0, q_t1, q_t2, q_t3, q_t4, q_l0, q_l1, q_l2, q_l3, q_l4, q_l5, q_l6, q_l8, q_negI, q_notS, q_okB, q_okI, q_nxO, q_nxS, q_mkNon, q_iteT, q_iteF, q_ofB, q_addI, q_subI, q_mulI, q_fdivI, q_modI, q_powI, q_addT, q_eqI, q_neI, q_ltI, q_leI, q_gtI, q_geI, q_eqB, q_neB, q_eqS, q_neS, q_isB, q_isnB, q_isN, q_isnN, q_truB, q_truI, q_isiI, q_isiB, q_isiS, q_isiT, q_isiN, q_lenT, q_gcd, q_abs, q_max, q_min, q_int, q_tupT, q_listT, q_ixT, q_ixL, q_at0, q_at1, q_at2, q_at3, q_at4, q_nm, q_tp, q_asn, q_asc, q_pn, q_pc, wp_bind, wp_ok, List.map_cons, List.map_nil, List.replicate, List.cons_append, List.nil_append, List.append_nil, List.getElem?_cons_zero, List.getElem?_cons_succ, List.set_cons_zero, List.set_cons_succ, List.length_cons, List.length_nil, if_true, if_false, Nat.reduceAdd, Nat.reduceSub, Nat.reduceLT, Nat.reduceLeDiff, Nat.zero_add, Nat.lt_add_one, Nat.zero_lt_succ, decide_true, decide_false, Bool.not_true, Bool.not_false, ne_eq, not_false_eq_true, not_true_eq_false, Int.reduceEq, Int.reduceNe, Int.reduceLT, Int.reduceLE, Int.reduceNeg, Int.reduceToNat, Nat.reducePow, Nat.reduceEqDiff, Bool.false_eq_true, Bool.true_eq_false, List.any_cons, List.any_nil, Bool.or_false, Bool.or_true, Bool.false_or, Bool.true_or, Ty.sub, Int.cast_ofNat_Int, Int.natCast_zero, Int.natCast_one, eq_self]
    refine (begin_ok (n := 5) hBegin hl).imp fun d S' ⟨e1, b, bk, bt, e2⟩ => ?_
    subst e1 e2
    try simp only [q_slot, q_cst, q_glo, q_tup, q_lst, q_dic, q_bin, q_neg, q_not, q_cmp, q_ifx, q_isi, q_bi, q_call, q_idx, q_slc, q_append, q_extend, q_and, q_or, q_nil, q_cons, q_none, q_some, q_and1, q_and2, q_andT, q_andF, q_andB, q_or1, q_or2, q_orB, q_tval, q_tnot, q_tand, q_tor, q_tcmp, q_tand1, q_tand2, q_tor1, q_tor2, q_cnil, q_ccons, q_set, q_par, q_setix, q_ex, q_ret, q_retN, q_iff, q_pass, q_brk, q_cont, q_bnil, q_nextN, q_nextR, q_nextK, q_nextC, q_bok, q_getS, q_getO, q_t0, q_t1, q_t2, q_t3, q_t4, q_l0, q_l1, q_l2, q_l3, q_l4, q_l5, q_l6, q_l8, q_negI, q_notS, q_okB, q_okI, q_nxO, q_nxS, q_mkNon, q_iteT, q_iteF, q_ofB, q_addI, q_subI, q_mulI, q_fdivI, q_modI, q_powI, q_addT, q_eqI, q_neI, q_ltI, q_leI, q_gtI, q_geI, q_eqB, q_neB, q_eqS, q_neS, q_isB, q_isnB, q_isN, q_isnN, q_truB, q_truI, q_isiI, q_isiB, q_isiS, q_isiT, q_isiN, q_lenT, q_gcd, q_abs, q_max, q_min, q_int, q_tupT, q_listT, q_ixT, q_ixL, q_at0, q_at1, q_at2, q_at3, q_at4, q_nm, q_tp, q_asn, q_asc, q_pn, q_pc, wp_bind, wp_ok, List.map_cons, List.map_nil, List.replicate, List.cons_append, List.nil_append, List.append_nil, List.getElem?_cons_zero, List.getElem?_cons_succ, List.set_cons_zero, List.set_cons_succ, List.length_cons, List.length_nil, if_true, if_false, Nat.reduceAdd, Nat.reduceSub, Nat.reduceLT, Nat.reduceLeDiff, Nat.zero_add, Nat.lt_add_one, Nat.zero_lt_succ, decide_true, decide_false, Bool.not_true, Bool.not_false, ne_eq, not_false_eq_true, not_true_eq_false, Int.reduceEq, Int.reduceNe, Int.reduceLT, Int.reduceLE, Int.reduceNeg, Int.reduceToNat, Nat.reducePow, Nat.reduceEqDiff, Bool.false_eq_true, Bool.true_eq_false, List.any_cons, List.any_nil, Bool.or_false, Bool.or_true, Bool.false_or, Bool.true_or, Ty.sub, Int.cast_ofNat_Int, Int.natCast_zero, Int.natCast_one, eq_self]
    refine wp_b ?_
    rw [loop_rng (by decide)]
    refine (rng_inv (m := 8) (fun i σ S => ∃ (b : Bs) (R : Sto) (x : Option D), b.ok ∧ b.t ≤ 100 * i ∧ S = b.sto ++ R ∧ σ = [some (.ref 0), some (.ref 3), x, none, none, none, none]) ?_ 8 0 _ _ rfl ⟨b, [], none, bk, by omega, (List.append_nil _).symm, rfl⟩).imp fun fl S' ⟨σ', e1, b', R, x, b1, b2, e2, e3⟩ => ?_
    · intro i σ S hi ⟨b, R, x, b1, b2, e2, e3⟩
      subst e2 e3
      show Wp (evB (CE 0) [.iff (.not (.val (.call 34 [.slot 1]))) [.ret (.cst (.bl false))] []] [some (.ref 0), some (.ref 3), some (.int (0 + (i : Int))), none, none, none, none] (b.sto ++ R)) _
      refine wp_b ?_
      simp only [q_slot, q_cst, q_glo, q_tup, q_lst, q_dic, q_bin, q_neg, q_not, q_cmp, q_ifx, q_isi, q_bi, q_call, q_idx, q_slc, q_append, q_extend, q_and, q_or, q_nil, q_cons, q_none, q_some, q_and1, q_and2, q_andT, q_andF, q_andB, q_or1, q_or2, q_orB, q_tval, q_tnot, q_tand, q_tor, q_tcmp, q_tand1, q_tand2, q_tor1, q_tor2, q_cnil, q_ccons, q_set, q_par, q_setix, q_ex, q_ret, q_retN, q_iff, q_pass, q_brk, q_cont, q_bnil, q_nextN, q_nextR, q_nextK, q_nextC, q_bok, q_getS, q_getO, q_t0, q_t1, q_t2, q_t3, q_t4, q_l0, q_l1, q_l2, q_l3, q_l4, q_l5, q_l6, q_l8, q_negI, q_notS, q_okB, q_okI, q_nxO, q_nxS, q_mkNon, q_iteT, q_iteF, q_ofB, q_addI, q_subI, q_mulI, q_fdivI, q_modI, q_powI, q_addT, q_eqI, q_neI, q_ltI, q_leI, q_gtI, q_geI, q_eqB, q_neB, q_eqS, q_neS, q_isB, q_isnB, q_isN, q_isnN, q_truB, q_truI, q_isiI, q_isiB, q_isiS, q_isiT, q_isiN, q_lenT, q_gcd, q_abs, q_max, q_min, q_int, q_tupT, q_listT, q_ixT, q_ixL, q_at0, q_at1, q_at2, q_at3, q_at4, q_nm, q_tp, q_asn, q_asc, q_pn, q_pc, wp_bind, wp_ok, List.map_cons, List.map_nil, List.replicate, List.cons_append, List.nil_append, List.append_nil, List.getElem?_cons_zero, List.getElem?_cons_succ, List.set_cons_zero, List.set_cons_succ, List.length_cons, List.length_nil, if_true, if_false, Nat.reduceAdd, Nat.reduceSub, Nat.reduceLT, Nat.reduceLeDiff, Nat.zero_add, Nat.lt_add_one, Nat.zero_lt_succ, decide_true, decide_false, Bool.not_true, Bool.not_false, ne_eq, not_false_eq_true, not_true_eq_false, Int.reduceEq, Int.reduceNe, Int.reduceLT, Int.reduceLE, Int.reduceNeg, Int.reduceToNat, Nat.reducePow, Nat.reduceEqDiff, Bool.false_eq_true, Bool.true_eq_false, List.any_cons, List.any_nil, Bool.or_false, Bool.or_true, Bool.false_or, Bool.true_or, Ty.sub, Int.cast_ofNat_Int, Int.natCast_zero, Int.natCast_one, eq_self]
      refine (right_ok (n := 0) b1 (by omega)).imp fun d S' ⟨e1, b', R', e2, c1, c2⟩ => ?_
      subst e1 e2
      try simp only [q_slot, q_cst, q_glo, q_tup, q_lst, q_dic, q_bin, q_neg, q_not, q_cmp, q_ifx, q_isi, q_bi, q_call, q_idx, q_slc, q_append, q_extend, q_and, q_or, q_nil, q_cons, q_none, q_some, q_and1, q_and2, q_andT, q_andF, q_andB, q_or1, q_or2, q_orB, q_tval, q_tnot, q_tand, q_tor, q_tcmp, q_tand1, q_tand2, q_tor1, q_tor2, q_cnil, q_ccons, q_set, q_par, q_setix, q_ex, q_ret, q_retN, q_iff, q_pass, q_brk, q_cont, q_bnil, q_nextN, q_nextR, q_nextK, q_nextC, q_bok, q_getS, q_getO, q_t0, q_t1, q_t2, q_t3, q_t4, q_l0, q_l1, q_l2, q_l3, q_l4, q_l5, q_l6, q_l8, q_negI, q_notS, q_okB, q_okI, q_nxO, q_nxS, q_mkNon, q_iteT, q_iteF, q_ofB, q_addI, q_subI, q_mulI, q_fdivI, q_modI, q_powI, q_addT, q_eqI, q_neI, q_ltI, q_leI, q_gtI, q_geI, q_eqB, q_neB, q_eqS, q_neS, q_isB, q_isnB, q_isN, q_isnN, q_truB, q_truI, q_isiI, q_isiB, q_isiS, q_isiT, q_isiN, q_lenT, q_gcd, q_abs, q_max, q_min, q_int, q_tupT, q_listT, q_ixT, q_ixL, q_at0, q_at1, q_at2, q_at3, q_at4, q_nm, q_tp, q_asn, q_asc, q_pn, q_pc, wp_bind, wp_ok, List.map_cons, List.map_nil, List.replicate, List.cons_append, List.nil_append, List.append_nil, List.getElem?_cons_zero, List.getElem?_cons_succ, List.set_cons_zero, List.set_cons_succ, List.length_cons, List.length_nil, if_true, if_false, Nat.reduceAdd, Nat.reduceSub, Nat.reduceLT, Nat.reduceLeDiff, Nat.zero_add, Nat.lt_add_one, Nat.zero_lt_succ, decide_true, decide_false, Bool.not_true, Bool.not_false, ne_eq, not_false_eq_true, not_true_eq_false, Int.reduceEq, Int.reduceNe, Int.reduceLT, Int.reduceLE, Int.reduceNeg, Int.reduceToNat, Nat.reducePow, Nat.reduceEqDiff, Bool.false_eq_true, Bool.true_eq_false, List.any_cons, List.any_nil, Bool.or_false, Bool.or_true, Bool.false_or, Bool.true_or, Ty.sub, Int.cast_ofNat_Int, Int.natCast_zero, Int.natCast_one, eq_self]
      exact ⟨_, rfl, b', R', _, c1, by omega, rfl, rfl⟩
    · subst e1 e3
      try simp only [q_slot, q_cst, q_glo, q_tup, q_lst, q_dic, q_bin, q_neg, q_not, q_cmp, q_ifx, q_isi, q_bi, q_call, q_idx, q_slc, q_append, q_extend, q_and, q_or, q_nil, q_cons, q_none, q_some, q_and1, q_and2, q_andT, q_andF, q_andB, q_or1, q_or2, q_orB, q_tval, q_tnot, q_tand, q_tor, q_tcmp, q_tand1, q_tand2, q_tor1, q_tor2, q_cnil, q_ccons, q_set, q_par, q_setix, q_ex, q_ret, q_retN, q_iff, q_pass, q_brk, q_cont, q_bnil, q_nextN, q_nextR, q_nextK, q_nextC, q_bok, q_getS, q_getO, q_t0, q_t1, q_t2, q_t3, q_t4, q_l0, q_l1, q_l2, q_l3, q_l4, q_l5, q_l6, q_l8, q_negI, q_notS, q_okB, q_okI, q_nxO, q_nxS, q_mkNon, q_iteT, q_iteF, q_ofB, q_addI, q_subI, q_mulI, q_fdivI, q_modI, q_powI, q_addT, q_eqI, q_neI, q_ltI, q_leI, q_gtI, q_geI, q_eqB, q_neB, q_eqS, q_neS, q_isB, q_isnB, q_isN, q_isnN, q_truB, q_truI, q_isiI, q_isiB, q_isiS, q_isiT, q_isiN, q_lenT, q_gcd, q_abs, q_max, q_min, q_int, q_tupT, q_listT, q_ixT, q_ixL, q_at0, q_at1, q_at2, q_at3, q_at4, q_nm, q_tp, q_asn, q_asc, q_pn, q_pc, wp_bind, wp_ok, List.map_cons, List.map_nil, List.replicate, List.cons_append, List.nil_append, List.append_nil, List.getElem?_cons_zero, List.getElem?_cons_succ, List.set_cons_zero, List.set_cons_succ, List.length_cons, List.length_nil, if_true, if_false, Nat.reduceAdd, Nat.reduceSub, Nat.reduceLT, Nat.reduceLeDiff, Nat.zero_add, Nat.lt_add_one, Nat.zero_lt_succ, decide_true, decide_false, Bool.not_true, Bool.not_false, ne_eq, not_false_eq_true, not_true_eq_false, Int.reduceEq, Int.reduceNe, Int.reduceLT, Int.reduceLE, Int.reduceNeg, Int.reduceToNat, Nat.reducePow, Nat.reduceEqDiff, Bool.false_eq_true, Bool.true_eq_false, List.any_cons, List.any_nil, Bool.or_false, Bool.or_true, Bool.false_or, Bool.true_or, Ty.sub, Int.cast_ofNat_Int, Int.natCast_zero, Int.natCast_one, eq_self]
      refine (end_ok (n := 0)).imp fun fl S'' e => ?_
      subst e
      exact wp_ok.mpr rfl
  obtain ⟨d, S', e, rfl⟩ := this
  exact ⟨S', e⟩
end K01
open PySem PySem.W PySem.Calls PyProof.Rows
theorem PySem.Challenge.cw_withinshapes_k01_points_holds : PySem.Challenge.rw_withinshapes_k01_points.Holds := by
  w_on; o_law
  refine HandSHeadRun.head_imp (r := OpenLaw.row PySem.Challenge.rw_withinshapes_k01_points) (q := view (OpenLaw.row PySem.Challenge.rw_withinshapes_k01_points).prog [0, 44]) (H := K01.hk) (ob := K01.ob) (M := 60000) (loose := K01.loose) (d := HandSHeadRun.topDef (OpenLaw.row PySem.Challenge.rw_withinshapes_k01_points).prog 44) (kwd := []) K01.ob_eq
    K01.run (by kernel_rfl) (by kernel_rfl) (by kernel_rfl) (by rfl) (by first | assumption | decide +kernel) (by decide +kernel) ⟨rfl, rfl, rfl, rfl, rfl, by decide +kernel⟩ ?hw ?hc
  case hw => w_witness2
  case hc =>
    refine Pd.walk_pd (l := PySem.Challenge.rw_withinshapes_k01_points) (m := 63) (n := K01.depth) (f := 35) (x := "script") (G := K01.G) (T := K01.T) rfl (by decide) (by kernel_rfl) ⟨rfl, by decide, by decide⟩ ?hf ?F K01.says
    case hf =>
      have e : (HandSHeadRun.topDef (OpenLaw.row PySem.Challenge.rw_withinshapes_k01_points).prog 44).name = ("law" : PySem.Str) := by kernel_rfl
      rw [e]; rfl
    case F =>
      intro w mg fa h Y Gm hmg
      obtain ⟨K, KX, c, ex⟩ := Y
      exact ⟨K, KX, Pd.allD_of K01.chk K01.binds K01.kwsOk KX Gm c ex⟩
